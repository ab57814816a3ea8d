import PyProof.Rows.All
import Wide.All
import OpenK.AllK
import Wide.FinOn
import HandS.ForMost
import HandS.Exc
import HandS.ExcOwn
import HandS.TryMany
import HandS.ExcInit
import HandS.Star
import HandS.Defaults
import HandS.FStr
import HandS.Property
import HandS.Codes
import HandS.Conv
import HandS.Deep
import HandS.TupAny
import HandS.Wide
import HandS.Lambda
import HandS.IsInst
import HandS.RaiseMore
import HandS.Head0
import HandS.Head1
import HandS.Head2
import HandS.HeadEnd
import HandS.HeadHook1
import HandS.HeadHook2
import HandS.HeadHook3
import HandS.HeadHook4
import KE.KSuper
import HandS.Nested
import HandS.MakeKw
import HandS.ExcValue
import HandS.ExcField
import HandS.ClsMeth
import KE.KTryMore
import HandS.HotCalls
import HandS.Zip
import KE.KLam
import HandS.HeadWalk
import HandS.Style
import HandS.Text
import HandS.ExcIs
import PySem.Challenge.RW_queuecut_k01_errors_by_themselves
set_option Elab.async false
set_option linter.all false
set_option maxRecDepth 100000
set_option maxHeartbeats 4000000
/-! Values as data: what a Python value of the program is, apart from the addresses at which it stands. -/
namespace Q
open PySem PySem.Spec PyProof.Rows L2

/-- a value as data; ref l: the changeable object with the number l -/
inductive D where
  | non
  | bl (b : Bool)
  | int (i : Int)
  | str (s : Str)
  | ty (n : String)
  | cls (n : Str)
  | ref (l : Nat)
  | tup (l : List D)
  | lst (l : List D)
  | scr (l : List D)
  | obj (n : Str) (fs : List (Str × D))
  | exn (n : Str) (fs : List (Str × D))
  | lam (k : Nat) (vs : List D)
  | lamI (k : Nat)
  | dic (t : Bool) (kvs : List (List Key × D))
/-- what stands at a dict: keys that are tuples (t), or a key alone -/
def dHO (t : Bool) (kv : List (List Key × V)) : HO := if t = true then .dT kv else .dK (kv.map fun p => (p.1.headD (.inl 0), p.2))
/-- a changeable object -/
inductive MO where
  | lst (l : List D)
  | inst (n : Str) (fs : List (Str × D))
  | dic (t : Bool) (kvs : List (List Key × D))
  | dead
abbrev MS := List MO
/-- a lambda's text, the names that it captures -/
structure LamTx where
  qual : Str
  params : Arguments
  body : Expr
  scope : Scope
  fr : List Str
/-- the classes of the program, by name; tabs: the tables of code objects; lams: the lambdas; own: the cells of the running def -/
structure Cl where
  K : PySem.W.Frag
  adr : Str → Option Addr
  hot : Option (Addr × Obj) := none
  tabs : List (Addr × Str) := []
  lams : List LamTx := []
  own : Option (List (Str × Addr)) := none

/-- the very object at a -/
def exq (a : Addr) (oe : Obj) : HO := .ext fun h => h.get? a = some oe
/-- an exception of the class at C, its dict at d -/
def XO (oe : Obj) (C d : Addr) : Prop := Zc (.ref C) (some d) oe ∧ ∃ vs, oe.data = .fields vs
/-- the function object of a lambda at f -/
def LamO (t : LamTx) (cl : List (Str × Addr)) (c' f : Addr) : HO := .ext fun h => ∃ pm ctv, h.get? f = some (PySem.W.kla_obj "<lambda>" t.qual t.params t.body t.scope cl pm c' ctv)
/-- captured cells, each known to the object, and what they hold -/
structure CellsP (P : Hp) (cl : List (Str × Addr)) (fr : List Str) (ws : List V) : Prop where
  len : ws.length = fr.length
  all : ∀ y cc, cl.lookup y = some cc → ∃ oc v, P cc = some (exq cc oc) ∧ oc.data = .cell v
  inj : ∀ x y cc, cl.lookup x = some cc → cl.lookup y = some cc → x = y
  has : ∀ (i : Nat) (y : Str), fr[i]? = some y → ∃ cc oc u w, cl.lookup y = some cc ∧ P cc = some (exq cc oc) ∧ oc.data = .cell (some u) ∧ ws[i]? = some w ∧ RelV w u
mutual
def VR (c : Cl) (θ : List Addr) (P : Hp) : D → V → Prop
  | .non, v => v = .non
  | .bl b, v => v = .bl b
  | .int i, v => v = .int i
  | .str s, v => v = .str s
  | .ty n, v => v = .ty n
  | .cls n, v => ∃ a, c.adr n = some a ∧ v = .ref a
  | .ref l, v => ∃ a, θ[l]? = some a ∧ v = .ref a
  | .tup l, v => ∃ a vs, v = .ref a ∧ SqT c.K P a vs ∧ VRL c θ P l vs
  | .lst l, v => ∃ a vs, v = .ref a ∧ P a = some (.lst vs) ∧ VRL c θ P l vs
  | .scr l, v => ∃ a vs, v = .ref a ∧ SqL c.K P a vs ∧ VRL c θ P l vs
  | .obj n fs, v => ∃ a C dx fv, v = .ref a ∧ c.adr n = some C ∧ P a = some (.ins C dx fv) ∧ VRF c θ P fs fv
  | .exn n fs, v => ∃ a oe C d fv, v = .ref a ∧ c.adr n = some C ∧ XO oe C d ∧ (P a = some (exq a oe) ∨ c.hot = some (a, oe)) ∧ P d = some (.xd fv) ∧ VRF c θ P fs fv
  | .lam k ds, v => ∃ f t c' cl ws, v = .ref f ∧ c.lams[k]? = some t ∧ P f = some (LamO t cl c' f) ∧ P c' = some (LamX.CodeO c' t.qual) ∧ CellsP P cl t.fr ws ∧ VRL c θ P ds ws
  | .lamI k, v => ∃ f t c' cl, v = .ref f ∧ c.lams[k]? = some t ∧ c.own = some cl ∧ P f = some (LamO t (cloFrom cl t.scope.names []) c' f) ∧ P c' = some (LamX.CodeO c' t.qual)
  | .dic t kvs, v => ∃ a kv, v = .ref a ∧ P a = some (dHO t kv) ∧ VRM c θ P kvs kv
def VRL (c : Cl) (θ : List Addr) (P : Hp) : List D → List V → Prop
  | [], vs => vs = []
  | d :: ds, vs => ∃ v r, vs = v :: r ∧ VR c θ P d v ∧ VRL c θ P ds r
def VRF (c : Cl) (θ : List Addr) (P : Hp) : List (Str × D) → List (Str × V) → Prop
  | [], vs => vs = []
  | (f, d) :: ds, vs => ∃ v r, vs = (f, v) :: r ∧ VR c θ P d v ∧ VRF c θ P ds r
def VRM (c : Cl) (θ : List Addr) (P : Hp) : List (List Key × D) → List (List Key × V) → Prop
  | [], vs => vs = []
  | (f, d) :: ds, vs => ∃ v r, vs = (f, v) :: r ∧ VR c θ P d v ∧ VRM c θ P ds r
end
theorem rd_mono {P P' : Hp} (h : ∀ b o, P b = some o → P' b = some o) {a : Addr} {u : HO} : Rd P a u → Rd P' a u
  | .inl e => .inl (h _ _ e)
  | .inr ⟨o, e⟩ => .inr ⟨o, h _ _ e⟩
theorem sqL_mono {K : PySem.W.Frag} {P P' : Hp} (h : ∀ b o, P b = some o → P' b = some o) {a : Addr} {vs : List V} : SqL K P a vs → SqL K P' a vs
  | .inl e => .inl (rd_mono h e)
  | .inr e => .inr e
theorem sqT_mono {K : PySem.W.Frag} {P P' : Hp} (h : ∀ b o, P b = some o → P' b = some o) {a : Addr} {vs : List V} : SqT K P a vs → SqT K P' a vs
  | .inl e => .inl (rd_mono h e)
  | .inr e => .inr e
theorem CellsP.mono {P P' : Hp} (h : ∀ b o, P b = some o → P' b = some o) {cl : List (Str × Addr)} {fr : List Str} {ws : List V} (C : CellsP P cl fr ws) : CellsP P' cl fr ws :=
  ⟨C.len, fun y cc e => let ⟨oc, v, a, b⟩ := C.all y cc e; ⟨oc, v, h _ _ a, b⟩, C.inj, fun i y e => let ⟨cc, oc, u, w, a, b, r⟩ := C.has i y e; ⟨cc, oc, u, w, a, h _ _ b, r⟩⟩
section
variable {c : Cl} {θ θ' : List Addr} {P P' : Hp} (h1 : ∀ (l : Nat) (a : Addr), θ[l]? = some a → θ'[l]? = some a) (h2 : ∀ b o, P b = some o → P' b = some o)
include h1 h2
mutual
theorem VR.mono : ∀ {d : D} {v : V}, VR c θ P d v → VR c θ' P' d v
  | .non, _, h => h
  | .bl _, _, h => h
  | .int _, _, h => h
  | .str _, _, h => h
  | .ty _, _, h => h
  | .cls _, _, h => h
  | .ref _, _, ⟨a, e, r⟩ => ⟨a, h1 _ _ e, r⟩
  | .tup _, _, ⟨a, vs, e, r, q⟩ => ⟨a, vs, e, sqT_mono h2 r, VRL.mono q⟩
  | .lst _, _, ⟨a, vs, e, r, q⟩ => ⟨a, vs, e, h2 _ _ r, VRL.mono q⟩
  | .scr _, _, ⟨a, vs, e, r, q⟩ => ⟨a, vs, e, sqL_mono h2 r, VRL.mono q⟩
  | .obj _ _, _, ⟨a, C, dx, fv, e, k, r, q⟩ => ⟨a, C, dx, fv, e, k, h2 _ _ r, VRF.mono q⟩
  | .exn _ _, _, ⟨a, oe, C, dx, fv, e, k, x, r, r', q⟩ => ⟨a, oe, C, dx, fv, e, k, x, r.imp (h2 _ _) id, h2 _ _ r', VRF.mono q⟩
  | .lam _ _, _, ⟨f, t, c', cl, ws, e, k, a, b, C, q⟩ => ⟨f, t, c', cl, ws, e, k, h2 _ _ a, h2 _ _ b, C.mono h2, VRL.mono q⟩
  | .lamI _, _, ⟨f, t, c', cl, e, k, o, a, b⟩ => ⟨f, t, c', cl, e, k, o, h2 _ _ a, h2 _ _ b⟩
  | .dic _ _, _, ⟨a, kv, e, r, q⟩ => ⟨a, kv, e, h2 _ _ r, VRM.mono q⟩
theorem VRL.mono : ∀ {d : List D} {v : List V}, VRL c θ P d v → VRL c θ' P' d v
  | [], _, h => h
  | _ :: _, _, ⟨v, r, e, a, b⟩ => ⟨v, r, e, VR.mono a, VRL.mono b⟩
theorem VRF.mono : ∀ {d : List (Str × D)} {v : List (Str × V)}, VRF c θ P d v → VRF c θ' P' d v
  | [], _, h => h
  | (_, _) :: _, _, ⟨v, r, e, a, b⟩ => ⟨v, r, e, VR.mono a, VRF.mono b⟩
theorem VRM.mono : ∀ {d : List (List Key × D)} {v : List (List Key × V)}, VRM c θ P d v → VRM c θ' P' d v
  | [], _, h => h
  | (_, _) :: _, _, ⟨v, r, e, a, b⟩ => ⟨v, r, e, VR.mono a, VRM.mono b⟩
end
end
section
variable {c : Cl} {θ : List Addr} {P : Hp}
theorem VRL.length : ∀ {ds : List D} {vs : List V}, VRL c θ P ds vs → vs.length = ds.length
  | [], _, h => by cases h; rfl
  | _ :: _, _, ⟨v, r, e, _, b⟩ => by subst e; simp [VRL.length b]
theorem VRL.get : ∀ {ds : List D} {vs : List V} {i : Nat} {d : D}, VRL c θ P ds vs → ds[i]? = some d → ∃ v, vs[i]? = some v ∧ VR c θ P d v
  | [], _, _, _, _, e => by simp at e
  | d :: ds, _, 0, d', ⟨v, r, e, a, b⟩, q => by subst e; simp at q; subst q; exact ⟨v, rfl, a⟩
  | d :: ds, _, i + 1, d', ⟨v, r, e, a, b⟩, q => by
    subst e
    obtain ⟨v', h1, h2⟩ := VRL.get (i := i) (d := d') b (by simpa using q)
    exact ⟨v', by simpa using h1, h2⟩
theorem VRL.getV : ∀ {ds : List D} {vs : List V} {i : Nat} {v : V}, VRL c θ P ds vs → vs[i]? = some v → ∃ d, ds[i]? = some d ∧ VR c θ P d v
  | [], _, _, _, h, e => by cases h; simp at e
  | d :: ds, _, 0, v', ⟨v, r, e, a, b⟩, q => by subst e; simp at q; subst q; exact ⟨d, rfl, a⟩
  | d :: ds, _, i + 1, v', ⟨v, r, e, a, b⟩, q => by
    subst e
    obtain ⟨v', h1, h2⟩ := VRL.getV (i := i) (v := v') b (by simpa using q)
    exact ⟨v', by simpa using h1, h2⟩
theorem VRL.append : ∀ {ds es : List D} {vs ws : List V}, VRL c θ P ds vs → VRL c θ P es ws → VRL c θ P (ds ++ es) (vs ++ ws)
  | [], _, _, _, h, k => by cases h; exact k
  | _ :: _, _, _, _, ⟨v, r, e, a, b⟩, k => by subst e; exact ⟨v, r ++ _, rfl, a, VRL.append b k⟩
theorem VRL.take : ∀ {ds : List D} {vs : List V} (n : Nat), VRL c θ P ds vs → VRL c θ P (ds.take n) (vs.take n)
  | _, _, 0, _ => by simp [VRL]
  | [], _, _ + 1, h => by cases h; simp [VRL]
  | _ :: _, _, n + 1, ⟨v, r, e, a, b⟩ => by subst e; exact ⟨v, _, rfl, a, VRL.take n b⟩
theorem VRL.drop : ∀ {ds : List D} {vs : List V} (n : Nat), VRL c θ P ds vs → VRL c θ P (ds.drop n) (vs.drop n)
  | _, _, 0, h => h
  | [], _, _ + 1, h => by cases h; simp [VRL]
  | _ :: _, _, n + 1, ⟨v, r, e, a, b⟩ => by subst e; exact VRL.drop n b
theorem VRL.set {d : D} {v : V} (hv : VR c θ P d v) : ∀ {ds : List D} {vs : List V} (i : Nat), VRL c θ P ds vs → VRL c θ P (ds.set i d) (vs.set i v)
  | [], _, _, h => by cases h; simp [VRL]
  | _ :: _, _, 0, ⟨v', r, e, a, b⟩ => by subst e; exact ⟨v, r, rfl, hv, b⟩
  | _ :: _, _, i + 1, ⟨v', r, e, a, b⟩ => by subst e; exact ⟨v', r.set i v, rfl, a, VRL.set hv i b⟩
theorem VRL.one {d : D} {v : V} (hv : VR c θ P d v) : VRL c θ P [d] [v] := ⟨v, [], rfl, hv, rfl⟩
theorem VRF.lookup {f : Str} : ∀ {ds : List (Str × D)} {vs : List (Str × V)}, VRF c θ P ds vs → (ds.lookup f = none → vs.lookup f = none) ∧ ∀ d, ds.lookup f = some d → ∃ v, vs.lookup f = some v ∧ VR c θ P d v
  | [], _, h => by cases h; exact ⟨fun _ => rfl, fun d e => by simp at e⟩
  | (g, d) :: ds, _, ⟨v, r, e, a, b⟩ => by
    subst e
    have ih := VRF.lookup (f := f) b
    by_cases q : (f == g) = true
    · simp only [List.lookup, q]
      exact ⟨fun z => by simp at z, fun d' e => by cases e; exact ⟨v, rfl, a⟩⟩
    · have q' : (f == g) = false := by simpa using q
      simp only [List.lookup, q']
      exact ih
theorem VRF.length : ∀ {ds : List (Str × D)} {vs : List (Str × V)}, VRF c θ P ds vs → vs.length = ds.length
  | [], _, h => by cases h; rfl
  | _ :: _, _, ⟨v, r, e, _, b⟩ => by subst e; simp [VRF.length b]
/-- a field stored: in its place, or at the end -/
def putD (f : Str) (d : D) : List (Str × D) → List (Str × D)
  | [] => [(f, d)]
  | (g, x) :: r => if g = f then (g, d) :: r else (g, x) :: putD f d r
theorem VRF.put {f : Str} {d : D} {v : V} (hv : VR c θ P d v) : ∀ {ds : List (Str × D)} {vs : List (Str × V)}, VRF c θ P ds vs → VRF c θ P (putD f d ds) (putF f v vs)
  | [], _, h => by cases h; exact ⟨v, [], rfl, hv, rfl⟩
  | (g, x) :: r, _, ⟨v', r', e, a, b⟩ => by
    subst e
    simp only [putD, putF]
    by_cases q : g = f
    · rw [if_pos q, if_pos q]; exact ⟨v, r', rfl, hv, b⟩
    · rw [if_neg q, if_neg q]; exact ⟨v', _, rfl, a, VRF.put hv b⟩
end

/-- a thing told by what is true of it, or a table -/
def Odd (u : HO) : Prop := (∃ φ, u = .ext φ) ∨ ∃ ps, u = .tbl ps
/-- what stands at a changeable object's address -/
def MR (c : Cl) (θ : List Addr) (P H : Hp) (a : Addr) : MO → Prop
  | .lst ds => ∃ vs, H a = some (.lst vs) ∧ VRL c θ P ds vs
  | .inst n fs => ∃ C dx fv, c.adr n = some C ∧ H a = some (.ins C dx fv) ∧ VRF c θ P fs fv
  | .dic t kvs => ∃ kv, H a = some (dHO t kv) ∧ VRM c θ P kvs kv
  | .dead => ∃ o, H a = some o ∧ ¬ Odd o
theorem MR.mono {c : Cl} {θ θ' : List Addr} {P P' H H' : Hp} (h1 : ∀ (l : Nat) (a : Addr), θ[l]? = some a → θ'[l]? = some a) (h2 : ∀ b o, P b = some o → P' b = some o) {a : Addr} (h3 : H' a = H a) : ∀ {mo : MO}, MR c θ P H a mo → MR c θ' P' H' a mo
  | .lst _, ⟨vs, k1, k2⟩ => ⟨vs, h3.trans k1, VRL.mono h1 h2 k2⟩
  | .inst _ _, ⟨C, dx, fv, k0, k1, k2⟩ => ⟨C, dx, fv, k0, h3.trans k1, VRF.mono h1 h2 k2⟩
  | .dic _ _, ⟨kv, k1, k2⟩ => ⟨kv, h3.trans k1, VRM.mono h1 h2 k2⟩
  | .dead, ⟨o, k1, k2⟩ => ⟨o, h3.trans k1, k2⟩
structure Wo (c : Cl) (θ : List Addr) (P H : Hp) (M : MS) : Prop where
  sub : ∀ b o, P b = some o → H b = some o
  len : θ.length = M.length
  cell : ∀ (l : Nat) (a : Addr) (mo : MO), θ[l]? = some a → M[l]? = some mo → MR c θ P H a mo
  off : ∀ (l : Nat) (a : Addr) (mo : MO), θ[l]? = some a → M[l]? = some mo → mo ≠ .dead → P a = none
  inj : ∀ (l l' : Nat) (a : Addr), θ[l]? = some a → θ[l']? = some a → l = l'
  there : ∀ a ∈ θ, H a ≠ none
  tabs : LamX.Tabs c.tabs H
  ptab : ∀ b ps, P b ≠ some (.tbl ps)
/-- from one state to a later one -/
structure Stp (θ : List Addr) (P H : Hp) (θ' : List Addr) (P' H' : Hp) : Prop where
  pre : ∀ (l : Nat) (a : Addr), θ[l]? = some a → θ'[l]? = some a
  keep : ∀ b o, H b = some o → b ∉ θ → (∀ ps, o ≠ .tbl ps) → H' b = some o
  pext : ∀ b o, P b = some o → P' b = some o
  new : ∀ b ∈ θ', b ∈ θ ∨ H b = none
  pnew : ∀ b o, P' b = some o → P b = some o ∨ b ∈ θ ∨ H b = none ∨ ∀ u, H b = some u → Odd u
  there : ∀ b, H b ≠ none → H' b ≠ none
theorem Stp.refl {θ : List Addr} {P H : Hp} : Stp θ P H θ P H := ⟨fun _ _ e => e, fun _ _ e _ _ => e, fun _ _ e => e, fun _ e => .inl e, fun _ _ e => .inl e, fun _ e => e⟩
theorem Stp.trans {θ θ1 θ2 : List Addr} {P P1 P2 H H1 H2 : Hp} (a : Stp θ P H θ1 P1 H1) (b : Stp θ1 P1 H1 θ2 P2 H2) : Stp θ P H θ2 P2 H2 where
  pre := fun l x e => b.pre l x (a.pre l x e)
  keep := fun x o e n nt => b.keep x o (a.keep x o e n nt) (fun m => (a.new x m).elim n fun z => by rw [z] at e; cases e) nt
  pext := fun x o e => b.pext x o (a.pext x o e)
  new := fun x m => by
    rcases b.new x m with z | z
    · exact a.new x z
    · refine .inr ?_
      cases q : H x with
      | none => rfl
      | some o => exact absurd z (a.there x (by rw [q]; simp))
  pnew := fun x o e => by
    rcases b.pnew x o e with z | z | z | z
    · exact a.pnew x o z
    · exact .inr ((a.new x z).imp id .inl)
    · refine .inr (.inr (.inl ?_))
      cases q : H x with
      | none => rfl
      | some o => exact absurd z (a.there x (by rw [q]; simp))
    · by_cases m : x ∈ θ
      · exact .inr (.inl m)
      · refine .inr (.inr (.inr fun u hu => ?_))
        by_cases k : ∃ ps, u = .tbl ps
        · exact .inr k
        · exact z u (a.keep x u hu m fun ps e => k ⟨ps, e⟩)
  there := fun x n => b.there x (a.there x n)
theorem VR.step {c : Cl} {θ θ' : List Addr} {P P' H H' : Hp} {d : D} {v : V} (h : VR c θ P d v) (s : Stp θ P H θ' P' H') : VR c θ' P' d v := VR.mono s.pre s.pext h
theorem VRL.step {c : Cl} {θ θ' : List Addr} {P P' H H' : Hp} {d : List D} {v : List V} (h : VRL c θ P d v) (s : Stp θ P H θ' P' H') : VRL c θ' P' d v := VRL.mono s.pre s.pext h

theorem mem_of_get {α : Type} {l : List α} {i : Nat} {a : α} (h : l[i]? = some a) : a ∈ l := List.mem_of_getElem? h
section
variable {c : Cl} {θ : List Addr} {P H : Hp} {M : MS}
theorem Wo.fresh (s : Wo c θ P H M) {p : Addr} (h : H p = none) : P p = none ∧ p ∉ θ := by
  refine ⟨?_, fun m => s.there p m h⟩
  cases q : P p with
  | none => rfl
  | some o => rw [s.sub p o q] at h; cases h
/-- a lasting object laid -/
theorem Wo.newP (s : Wo c θ P H M) {p : Addr} {o : HO} (h : H p = none) (hn : ∀ ps, o ≠ .tbl ps := by intro _ z; cases z) : Wo c θ (upd P p o) (upd H p o) M ∧ Stp θ P H θ (upd P p o) (upd H p o) := by
  obtain ⟨hP, hT⟩ := s.fresh h
  have ext : ∀ b u, P b = some u → upd P p o b = some u := fun b u e => by rw [upd_ne (fun z => by subst z; rw [hP] at e; cases e)]; exact e
  refine ⟨⟨fun b u e => ?_, s.len, fun l a mo e1 e2 => ?_, fun l a mo e1 e2 n => ?_, s.inj, fun a m => ?_, s.tabs.ext fun b u e => by rw [upd_ne (fun z => by subst z; rw [h] at e; cases e)]; exact e, fun b ps e => ?_⟩, ⟨fun _ _ e => e, fun b u e _ _ => ?_, ext, fun _ e => .inl e, fun b u e => ?_, fun b n => ?_⟩⟩
  · by_cases q : b = p
    · subst q; rw [upd_same] at e ⊢; exact e
    · rw [upd_ne q] at e ⊢; exact s.sub b u e
  · have na : a ≠ p := fun z => hT (by rw [← z]; exact mem_of_get e1)
    exact (s.cell l a mo e1 e2).mono (fun _ _ e => e) ext (upd_ne na)
  · rw [upd_ne (fun z => hT (by rw [← z]; exact mem_of_get e1))]; exact s.off l a mo e1 e2 n
  · by_cases q : a = p
    · subst q; rw [upd_same]; simp
    · rw [upd_ne q]; exact s.there a m
  · by_cases q : b = p
    · subst q; rw [upd_same] at e; exact hn ps (Option.some.inj e)
    · rw [upd_ne q] at e; exact s.ptab b ps e
  · rw [upd_ne (fun z => by subst z; rw [h] at e; cases e)]; exact e
  · by_cases q : b = p
    · subst q; exact .inr (.inr (.inl h))
    · rw [upd_ne q] at e; exact .inl e
  · by_cases q : b = p
    · subst q; rw [upd_same]; simp
    · rw [upd_ne q]; exact n
theorem get_append_some {α : Type} {l : List α} {i : Nat} {a x : α} (h : l[i]? = some a) : (l ++ [x])[i]? = some a := by
  have := (List.getElem?_eq_some_iff.mp h).1
  rw [List.getElem?_append_left this]; exact h
theorem get_snoc {α : Type} {l : List α} {i : Nat} {a x : α} (h : (l ++ [x])[i]? = some a) : l[i]? = some a ∨ (i = l.length ∧ x = a) := by
  by_cases q : i < l.length
  · rw [List.getElem?_append_left q] at h; exact .inl h
  · rw [List.getElem?_append_right (by omega)] at h
    have : i - l.length = 0 := by
      cases e : i - l.length with
      | zero => rfl
      | succ n => rw [e] at h; simp at h
    rw [this] at h
    exact .inr ⟨by omega, by simpa using h⟩
theorem get_last {α : Type} {l : List α} {x : α} : (l ++ [x])[l.length]? = some x := by simp
/-- an untracked-so-far address becomes a changeable object -/
theorem Wo.newM (s : Wo c θ P H M) {p : Addr} {o : HO} {mo : MO} (h : H p = none) (r : MR c (θ ++ [p]) P (upd H p o) p mo) : Wo c (θ ++ [p]) P (upd H p o) (M ++ [mo]) ∧ Stp θ P H (θ ++ [p]) P (upd H p o) := by
  obtain ⟨hP, hT⟩ := s.fresh h
  have pre : ∀ (l : Nat) (a : Addr), θ[l]? = some a → (θ ++ [p])[l]? = some a := fun l a e => get_append_some e
  refine ⟨⟨fun b u e => ?_, by simp [s.len], fun l a m e1 e2 => ?_, fun l a m e1 e2 n => ?_, fun l l' a e1 e2 => ?_, fun a m => ?_, s.tabs.ext fun b u e => by rw [upd_ne (fun z => by subst z; rw [h] at e; cases e)]; exact e, s.ptab⟩, ⟨pre, fun b u e _ _ => ?_, fun _ _ e => e, fun b m => ?_, fun _ _ e => .inl e, fun b n => ?_⟩⟩
  · rw [upd_ne (fun z => by subst z; rw [hP] at e; cases e)]; exact s.sub b u e
  · rcases get_snoc e1 with e1 | ⟨el, ea⟩
    · have na : a ≠ p := fun z => hT (by rw [← z]; exact mem_of_get e1)
      have hl := (List.getElem?_eq_some_iff.mp e1).1
      rw [List.getElem?_append_left (by rw [← s.len]; exact hl)] at e2
      exact (s.cell l a m e1 e2).mono pre (fun _ _ e => e) (upd_ne na)
    · subst ea; subst el
      rw [s.len] at e2
      rw [get_last] at e2
      cases e2
      exact r
  · rcases get_snoc e1 with e1 | ⟨el, ea⟩
    · have hl := (List.getElem?_eq_some_iff.mp e1).1
      rw [List.getElem?_append_left (by rw [← s.len]; exact hl)] at e2
      exact s.off l a m e1 e2 n
    · subst ea; exact hP
  · rcases get_snoc e1 with e1 | ⟨el, ea⟩ <;> rcases get_snoc e2 with e2 | ⟨el', ea'⟩
    · exact s.inj l l' a e1 e2
    · subst ea'; exact absurd (mem_of_get e1) hT
    · subst ea; exact absurd (mem_of_get e2) hT
    · omega
  · rcases List.mem_append.mp m with m | m
    · rw [upd_ne (fun z => hT (by rw [← z]; exact m))]; exact s.there a m
    · have : a = p := by simpa using m
      subst this; rw [upd_same]; simp
  · rw [upd_ne (fun z => by subst z; rw [h] at e; cases e)]; exact e
  · rcases List.mem_append.mp m with m | m
    · exact .inl m
    · have : b = p := by simpa using m
      subst this; exact .inr h
  · by_cases q : b = p
    · subst q; rw [upd_same]; simp
    · rw [upd_ne q]; exact n
theorem tabs_keep {T : List (Addr × Str)} {H H' : Hp} (t : LamX.Tabs T H) (k : ∀ b o, H b = some o → ((∃ ps, o = .tbl ps) ∨ ∃ φ, o = .ext φ) → H' b = some o) : LamX.Tabs T H' := fun p hp => by
  obtain ⟨ps, h1, h2, h3⟩ := t p hp
  refine ⟨ps, k _ _ h1 (.inl ⟨_, rfl⟩), h2, fun pos cv hc => ?_⟩
  obtain ⟨c, e1, e2⟩ := h3 pos cv hc
  exact ⟨c, e1, k _ _ e2 (.inr ⟨_, rfl⟩)⟩
theorem MR.kind {a : Addr} {mo : MO} (r : MR c θ P H a mo) : ∃ o, H a = some o ∧ ¬ Odd o := by
  cases mo with
  | lst ds => obtain ⟨vs, h, _⟩ := r; exact ⟨_, h, by rintro (⟨_, z⟩ | ⟨_, z⟩) <;> cases z⟩
  | inst n fs => obtain ⟨C, dx, fv, _, h, _⟩ := r; exact ⟨_, h, by rintro (⟨_, z⟩ | ⟨_, z⟩) <;> cases z⟩
  | dic t kvs =>
    obtain ⟨kv, h, _⟩ := r
    exact ⟨_, h, by rintro (⟨_, z⟩ | ⟨_, z⟩) <;> (unfold dHO at z; split at z <;> cases z)⟩
  | dead => exact r
theorem Wo.kind (s : Wo c θ P H M) {a : Addr} (h : a ∈ θ) : ∃ o, H a = some o ∧ ¬ Odd o := by
  obtain ⟨l, hl⟩ := List.mem_iff_getElem?.mp h
  have hlt : l < M.length := by rw [← s.len]; exact (List.getElem?_eq_some_iff.mp hl).1
  exact (s.cell l a M[l] hl (List.getElem?_eq_getElem hlt)).kind
/-- a changeable object changes -/
theorem Wo.setM (s : Wo c θ P H M) {l : Nat} {a : Addr} {o : HO} {mo mo' : MO} (hl : θ[l]? = some a) (hm : M[l]? = some mo) (hd : mo ≠ .dead) (r : MR c θ P (upd H a o) a mo') : Wo c θ P (upd H a o) (M.set l mo') ∧ Stp θ P H θ P (upd H a o) := by
  have hP := s.off l a mo hl hm hd
  have hlt : l < M.length := (List.getElem?_eq_some_iff.mp hm).1
  obtain ⟨oo, ho, hk⟩ := (s.cell l a mo hl hm).kind
  refine ⟨⟨fun b u e => ?_, by simp [s.len], fun k b m e1 e2 => ?_, fun k b m e1 e2 n => ?_, s.inj, fun b m => ?_, tabs_keep s.tabs fun b u e z => ?_, s.ptab⟩, ⟨fun _ _ e => e, fun b u e n _ => ?_, fun _ _ e => e, fun _ e => .inl e, fun _ _ e => .inl e, fun b n => ?_⟩⟩
  · rw [upd_ne (fun z => by subst z; rw [hP] at e; cases e)]; exact s.sub b u e
  · by_cases q : k = l
    · subst q
      rw [hl] at e1; cases e1
      rw [List.getElem?_set_self hlt] at e2; cases e2
      exact r
    · rw [List.getElem?_set_ne (Ne.symm q)] at e2
      have nb : b ≠ a := fun z => q (s.inj k l a (by rw [← z]; exact e1) hl)
      exact (s.cell k b m e1 e2).mono (fun _ _ e => e) (fun _ _ e => e) (upd_ne nb)
  · by_cases q : k = l
    · subst q; rw [hl] at e1; cases e1; exact hP
    · rw [List.getElem?_set_ne (Ne.symm q)] at e2; exact s.off k b m e1 e2 n
  · by_cases q : b = a
    · subst q; rw [upd_same]; simp
    · rw [upd_ne q]; exact s.there b m
  · rw [upd_ne (fun w => by subst w; rw [ho] at e; cases e; exact hk z.symm)]; exact e
  · rw [upd_ne (fun z => n (by rw [z]; exact mem_of_get hl))]; exact e
  · by_cases q : b = a
    · subst q; rw [upd_same]; simp
    · rw [upd_ne q]; exact n
end
end Q

namespace Q
open PySem PySem.Spec PyProof.Rows L2

/-! ### results -/
inductive Res (α : Type) where
  | ok (a : α) (M : MS)
  | err (n : Str) (fs : List (Str × D)) (M : MS)
  | stuck
@[simp] def Res.bind {α β : Type} : Res α → (α → MS → Res β) → Res β
  | .ok a M, f => f a M
  | .err n fs M, _ => .err n fs M
  | .stuck, _ => .stuck
abbrev Ev := List (Option D)
abbrev Rn (α : Type) := Ev → MS → Res α

structure ER (c : Cl) (θ : List Addr) (P : Hp) (ρ : Ev) (σ : L2.St) : Prop where
  len : ρ.length = σ.length
  at_ : ∀ (i : Nat) (d : D), ρ[i]? = some (some d) → ∃ v, σ[i]? = some (some v) ∧ VR c θ P d v
theorem ER.step {c : Cl} {θ θ' : List Addr} {P P' H H' : Hp} {ρ : Ev} {σ : L2.St} (h : ER c θ P ρ σ) (s : Stp θ P H θ' P' H') : ER c θ' P' ρ σ := ⟨h.len, fun i d e =>
  let ⟨v, e1, r⟩ := h.at_ i d e
  ⟨v, e1, r.step s⟩⟩
theorem ER.set {c : Cl} {θ : List Addr} {P : Hp} {ρ : Ev} {σ : L2.St} {d : D} {v : V} (h : ER c θ P ρ σ) (i : Nat) (r : VR c θ P d v) : ER c θ P (ρ.set i (some d)) (σ.set i (some v)) := ⟨by simp [h.len], fun j x e => by
  by_cases q : j = i
  · subst q
    by_cases l : j < ρ.length
    · rw [List.getElem?_set_self l] at e
      cases e
      exact ⟨v, List.getElem?_set_self (by rw [← h.len]; exact l), r⟩
    · rw [List.getElem?_eq_none (by simp; omega)] at e
      cases e
  · rw [List.getElem?_set_ne (Ne.symm q)] at e ⊢
    exact h.at_ j x e⟩
/-- an exception on its way -/
def XR (c : Cl) (θ : List Addr) (P H : Hp) (n : Str) (fs : List (Str × D)) (cv : Value) (dd : Option Addr) : Prop :=
  ∃ C d fv, c.adr n = some C ∧ cv = .ref C ∧ dd = some d ∧ P d = some (.xd fv) ∧ VRF c θ P fs fv

def Out {α β : Type} (c : Cl) (R : List Addr → Hp → Hp → α → β → Prop) (θ : List Addr) (P H : Hp) (Q : β → Hp → Prop) (Wx : Value → Option Addr → Hp → Prop) : Res α → Prop
  | .ok a M' => ∀ b H' θ' P', Wo c θ' P' H' M' → Stp θ P H θ' P' H' → R θ' P' H' a b → Q b H'
  | .err n fs M' => ∀ cv dd H' θ' P', Wo c θ' P' H' M' → Stp θ P H θ' P' H' → XR c θ' P' H' n fs cv dd → Wx cv dd H'
  | .stuck => False
abbrev RV (c : Cl) : List Addr → Hp → Hp → D → V → Prop := fun θ P _ d v => VR c θ P d v
abbrev RB : List Addr → Hp → Hp → Bool → Bool → Prop := fun _ _ _ a b => b = a
abbrev RL (c : Cl) : List Addr → Hp → Hp → List D → List V → Prop := fun θ P _ d v => VRL c θ P d v
abbrev OutE (c : Cl) := Out (α := D) (β := V) c (RV c)
abbrev OutB (c : Cl) := Out (α := Bool) (β := Bool) c RB
abbrev OutL (c : Cl) := Out (α := List D) (β := List V) c (RL c)
section
variable {α β γ δ : Type} {c : Cl} {R : List Addr → Hp → Hp → α → β → Prop} {S : List Addr → Hp → Hp → γ → δ → Prop} {θ : List Addr} {P H : Hp} {Q Q' : β → Hp → Prop} {Wx : Value → Option Addr → Hp → Prop}
theorem Out.imp {r : Res α} (h : Out c R θ P H Q Wx r) (k : ∀ b H', Q b H' → Q' b H') : Out c R θ P H Q' Wx r := by
  cases r with
  | ok a M' => exact fun b H' θ' P' w s x => k _ _ (h b H' θ' P' w s x)
  | err n fs M' => exact h
  | stuck => exact h
theorem Out.base {θ1 : List Addr} {P1 H1 : Hp} {r : Res α} (s : Stp θ P H θ1 P1 H1) (h : Out c R θ P H Q Wx r) : Out c R θ1 P1 H1 Q Wx r := by
  cases r with
  | ok a M' => exact fun b H' θ' P' w s' x => h b H' θ' P' w (s.trans s') x
  | err n fs M' => exact fun cv dd H' θ' P' w s' x => h cv dd H' θ' P' w (s.trans s') x
  | stuck => exact h
theorem Out.bind {Q2 : δ → Hp → Prop} {r : Res α} {f : α → MS → Res γ} (h : Out c S θ P H Q2 Wx (r.bind f)) (k : ∀ a M1 b H1 θ1 P1, Wo c θ1 P1 H1 M1 → Stp θ P H θ1 P1 H1 → R θ1 P1 H1 a b → Out c S θ1 P1 H1 Q2 Wx (f a M1) → Q b H1) : Out c R θ P H Q Wx r := by
  cases r with
  | ok a M1 => exact fun b H1 θ1 P1 w s x => k a M1 b H1 θ1 P1 w s x (Out.base s h)
  | err n fs M' => exact h
  | stuck => exact h
theorem Out.now {a : α} {b : β} {M : MS} (w : Wo c θ P H M) (h : Out c R θ P H Q Wx (.ok a M)) (r : R θ P H a b) : Q b H := h b H θ P w .refl r
end

/-! ### readings -/
def liftE (c : Cl) (W : WX) (run : Rn D) : TE := fun σ H Q => ∃ ρ M θ P, Wo c θ P H M ∧ ER c θ P ρ σ ∧ OutE c θ P H Q (fun cv dd H' => W cv dd σ H') (run ρ M)
def liftT (c : Cl) (W : WX) (run : Rn Bool) : TT := fun σ H Q => ∃ ρ M θ P, Wo c θ P H M ∧ ER c θ P ρ σ ∧ OutB c θ P H Q (fun cv dd H' => W cv dd σ H') (run ρ M)
def liftA (c : Cl) (W : WX) (run : Rn (List D)) : TA := fun σ H Q => ∃ ρ M θ P, Wo c θ P H M ∧ ER c θ P ρ σ ∧ OutL c θ P H Q (fun cv dd H' => W cv dd σ H') (run ρ M)
section
variable {X : Cx} {e : Expr}
theorem PE.imp {t t' : TE} (h : PE X e t) (k : ∀ σ H Q, t' σ H Q → t σ H Q) : PE X e t' := ⟨fun pins s σ H Q I q => h.run pins s σ H Q I (k _ _ _ q)⟩
theorem PT.imp {t t' : TT} (h : PT X e t) (k : ∀ σ H Q, t' σ H Q → t σ H Q) : PT X e t' := ⟨fun pins s σ H Q I q => h.run pins s σ H Q I (k _ _ _ q)⟩
theorem PA.imp {es : List Expr} {t t' : TA} (h : PA X es t) (k : ∀ σ H Q, t' σ H Q → t σ H Q) : PA X es t' := ⟨fun pos pins s σ H Q I q => h.run pos pins s σ H Q I (k _ _ _ q)⟩
theorem PE.both {t t' : TE} (h : PE X e t) (h' : PE X e t') : PE X e (fun σ H Q => t σ H Q ∨ t' σ H Q) := ⟨fun pins s σ H Q I q => q.elim (h.run pins s σ H Q I) (h'.run pins s σ H Q I)⟩
end

/-! ### names, constants -/
def rV (i : Nat) : Rn D := fun ρ M => match ρ[i]? with | some (some d) => .ok d M | _ => .stuck
def rC (d : D) : Rn D := fun _ M => .ok d M
section
variable {X : Cx} {c : Cl} {W : WX}
theorem s_var {i : Nat} {x : Str} {pos : Pos} (h : PE X (.Name x pos) (tVar i)) : PE X (.Name x pos) (liftE c W (rV i)) := PE.imp h fun σ H Q ⟨ρ, M, θ, P, w, er, o⟩ => by
  unfold rV at o
  cases e : ρ[i]? with
  | none => simp only [e] at o; exact o.elim
  | some od =>
    cases od with
    | none => simp only [e] at o; exact o.elim
    | some d =>
      simp only [e] at o
      obtain ⟨v, e1, r⟩ := er.at_ i d e
      exact ⟨v, e1, Out.now w o r⟩
theorem s_const {e : Expr} {v : V} {d : D} (h : PE X e (tC v)) (r : ∀ θ P, VR c θ P d v) : PE X e (liftE c W (rC d)) := PE.imp h fun σ H Q ⟨ρ, M, θ, P, w, er, o⟩ => Out.now w o (r θ P)
theorem s_int {i j pos} : PE X (.Constant (.int i) j pos) (liftE c W (rC (.int i))) := s_const pe_int fun _ _ => rfl
theorem s_bl {i j pos} : PE X (.Constant (.bool i) j pos) (liftE c W (rC (.bl i))) := s_const pe_bl fun _ _ => rfl
theorem s_non {j pos} : PE X (.Constant .none j pos) (liftE c W (rC .non)) := s_const pe_non fun _ _ => rfl
theorem s_str {i j pos} : PE X (.Constant (.str i) j pos) (liftE c W (rC (.str i))) := s_const pe_str fun _ _ => rfl

/-! ### argument lists, displays -/
def rNil : Rn (List D) := fun _ M => .ok [] M
def rCons (a : Rn D) (r : Rn (List D)) : Rn (List D) := fun ρ M => (a ρ M).bind fun d M1 => (r ρ M1).bind fun ds M2 => .ok (d :: ds) M2
theorem s_nil : PA X [] (liftA c W rNil) := PA.imp pa_nil fun σ H Q ⟨ρ, M, θ, P, w, er, o⟩ => Out.now (R := RL c) w o rfl
theorem s_cons {e : Expr} {es : List Expr} {a : Rn D} {r : Rn (List D)} (ha : PE X e (liftE c W a)) (hr : PA X es (liftA c W r)) (hs : starEach (e :: es) X.env = (false, eval e X.env) :: starEach es X.env := by rfl) : PA X (e :: es) (liftA c W (rCons a r)) :=
  PA.imp (pa_cons ha hr hs) fun σ H Q ⟨ρ, M, θ, P, w, er, o⟩ =>
    ⟨ρ, M, θ, P, w, er, Out.bind (R := RV c) o fun d M1 v H1 θ1 P1 w1 s1 r1 o1 => ⟨ρ, M1, θ1, P1, w1, er.step s1, Out.bind (R := RL c) o1 fun ds M2 vs H2 θ2 P2 w2 s2 r2 o2 => Out.now (R := RL c) w2 o2 ⟨v, vs, rfl, r1.step s2, r2⟩⟩⟩
def small (n : Nat) : Bool := decide (n ≤ 16777216)
theorem small_line {n : Nat} (h : small n = true) : n ≤ sizeLine := by rw [sizeLine_eq]; exact of_decide_eq_true h
def rGuard {α : Type} (b : Bool) (r : Res α) : Res α := if b = true then r else .stuck
theorem Out.guard {α β : Type} {R : List Addr → Hp → Hp → α → β → Prop} {θ : List Addr} {P H : Hp} {Q : β → Hp → Prop} {Wx : Value → Option Addr → Hp → Prop} {b : Bool} {r : Res α} (h : Out c R θ P H Q Wx (rGuard b r)) : b = true ∧ Out c R θ P H Q Wx r := by
  unfold rGuard at h
  split at h
  · exact ⟨by assumption, h⟩
  · exact h.elim
def rTup (a : Rn (List D)) : Rn D := fun ρ M => (a ρ M).bind fun ds M1 => rGuard (small ds.length) (.ok (.tup ds) M1)
def rLst (a : Rn (List D)) : Rn D := fun ρ M => (a ρ M).bind fun ds M1 => rGuard (small ds.length) (.ok (.lst ds) M1)
/-- a list that will be changed -/
def rLstM (a : Rn (List D)) : Rn D := fun ρ M => (a ρ M).bind fun ds M1 => rGuard (small ds.length) (.ok (.ref M1.length) (M1 ++ [.lst ds]))
section
variable {θ : List Addr} {P H : Hp} {M : MS} {Wx : Value → Option Addr → Hp → Prop} {Q : V → Hp → Prop} {p : Addr} {ds : List D} {vs : List V}
theorem new_tup (w : Wo c θ P H M) (hp : H p = none) (r : VRL c θ P ds vs) (o : OutE c θ P H Q Wx (.ok (.tup ds) M)) : Q (.ref p) (upd H p (.tup vs)) := by
  obtain ⟨w', s'⟩ := w.newP (o := .tup vs) hp
  exact o _ _ _ _ w' s' ⟨p, vs, rfl, .inl (.inl upd_same), r.step s'⟩
theorem new_lst (w : Wo c θ P H M) (hp : H p = none) (r : VRL c θ P ds vs) (o : OutE c θ P H Q Wx (.ok (.lst ds) M)) : Q (.ref p) (upd H p (.lst vs)) := by
  obtain ⟨w', s'⟩ := w.newP (o := .lst vs) hp
  exact o _ _ _ _ w' s' ⟨p, vs, rfl, upd_same, r.step s'⟩
theorem new_lstM (w : Wo c θ P H M) (hp : H p = none) (r : VRL c θ P ds vs) (o : OutE c θ P H Q Wx (.ok (.ref M.length) (M ++ [.lst ds]))) : Q (.ref p) (upd H p (.lst vs)) := by
  obtain ⟨w', s'⟩ := w.newM (o := .lst vs) (mo := .lst ds) hp ⟨vs, upd_same, VRL.mono (fun _ _ e => get_append_some e) (fun _ _ e => e) r⟩
  exact o _ _ _ _ w' s' ⟨p, by rw [← w.len]; exact get_last, rfl⟩
end
theorem s_tup {es : List Expr} {k pos} {a : Rn (List D)} (h : PA X es (liftA c W a)) : PE X (.Tuple es k pos) (liftE c W (rTup a)) :=
  PE.imp (pe_tup h) fun σ H Q ⟨ρ, M, θ, P, w, er, o⟩ => ⟨ρ, M, θ, P, w, er, Out.bind (R := RL c) o fun ds M1 vs H1 θ1 P1 w1 s1 r1 o1 => by
    obtain ⟨g, o1⟩ := o1.guard
    exact ⟨by rw [r1.length]; exact small_line g, fun p hp => new_tup w1 hp r1 o1⟩⟩
theorem s_lst {es : List Expr} {pos} {a : Rn (List D)} (h : PA X es (liftA c W a)) : PE X (.List es pos) (liftE c W (rLst a)) :=
  PE.imp (pe_lst h) fun σ H Q ⟨ρ, M, θ, P, w, er, o⟩ => ⟨ρ, M, θ, P, w, er, Out.bind (R := RL c) o fun ds M1 vs H1 θ1 P1 w1 s1 r1 o1 => by
    obtain ⟨g, o1⟩ := o1.guard
    exact ⟨by rw [r1.length]; exact small_line g, fun p hp => new_lst w1 hp r1 o1⟩⟩
theorem s_lstM {es : List Expr} {pos} {a : Rn (List D)} (h : PA X es (liftA c W a)) : PE X (.List es pos) (liftE c W (rLstM a)) :=
  PE.imp (pe_lst h) fun σ H Q ⟨ρ, M, θ, P, w, er, o⟩ => ⟨ρ, M, θ, P, w, er, Out.bind (R := RL c) o fun ds M1 vs H1 θ1 P1 w1 s1 r1 o1 => by
    obtain ⟨g, o1⟩ := o1.guard
    exact ⟨by rw [r1.length]; exact small_line g, fun p hp => new_lstM w1 hp r1 o1⟩⟩

/-! ### operators -/
/-- what an operator does to data, by what it does to values -/
def Op2 (c : Cl) (r : R2) (f : D → D → MS → Res D) : Prop := ∀ θ P H M d e x y Q Wx, Wo c θ P H M → VR c θ P d x → VR c θ P e y → OutE c θ P H Q Wx (f d e M) → r x y H Q
def rOp2 (f : D → D → MS → Res D) (a b : Rn D) : Rn D := fun ρ M => (a ρ M).bind fun x M1 => (b ρ M1).bind fun y M2 => f x y M2
theorem two {a b : Rn D} {f : D → D → MS → Res D} {r : R2} (hf : Op2 c r f) {σ : L2.St} {H : Hp} {Q : V → Hp → Prop} (h : liftE c W (rOp2 f a b) σ H Q) : tOp r (liftE c W a) (liftE c W b) σ H Q := by
  obtain ⟨ρ, M, θ, P, w, er, o⟩ := h
  exact ⟨ρ, M, θ, P, w, er, Out.bind (R := RV c) o fun d M1 x H1 θ1 P1 w1 s1 r1 o1 => ⟨ρ, M1, θ1, P1, w1, er.step s1, Out.bind (R := RV c) o1 fun e M2 y H2 θ2 P2 w2 s2 r2 o2 => hf _ _ _ _ _ _ _ _ _ _ w2 (r1.step s2) r2 o2⟩⟩
theorem s_bin {e1 e2 : Expr} {op : Operator} {pos : Pos} {a b : Rn D} {f : D → D → MS → Res D} {r : R2} (ho : OpR X (binaryOp op) r) (hf : Op2 c r f) (ha : PE X e1 (liftE c W a)) (hb : PE X e2 (liftE c W b)) : PE X (.BinOp e1 op e2 pos) (liftE c W (rOp2 f a b)) :=
  PE.imp (pe_op ho ha hb) fun σ H Q h => two hf h
theorem s_cmp {e1 e2 : Expr} {op : CmpOp} {pos : Pos} {a b : Rn D} {f : D → D → MS → Res D} {r : R2} (ho : OpR X (compareOp op) r) (hf : Op2 c r f) (ha : PE X e1 (liftE c W a)) (hb : PE X e2 (liftE c W b)) (hm : behindInMarks op e2 = false := by rfl) : PE X (.Compare e1 [op] [e2] pos) (liftE c W (rOp2 f a b)) :=
  PE.imp (pe_cmpR ho ha hb hm) fun σ H Q h => two hf h
def toB (d : D) (M : MS) : Res Bool := match d with | .bl b => .ok b M | _ => .stuck
def rB (a : Rn D) : Rn Bool := fun ρ M => (a ρ M).bind toB
/-- a value that is a truth value, as a test -/
theorem t_of {e : Expr} {t : TE} {a : Rn D} (h : PT X e (fun σ H Q => t σ H fun x H1 => ∃ k, x = .bl k ∧ Q k H1)) (k : ∀ σ H Q, liftE c W a σ H Q → t σ H Q) : PT X e (liftT c W (rB a)) :=
  PT.imp h fun σ H Q ⟨ρ, M, θ, P, w, er, o⟩ => k _ _ _ ⟨ρ, M, θ, P, w, er, Out.bind (R := RV c) o fun d M1 v H1 θ1 P1 w1 s1 r1 o1 => by
    cases d with
    | bl b => exact ⟨b, r1, Out.now (R := RB) w1 o1 rfl⟩
    | _ => exact o1.elim⟩
theorem t_cmp {e1 e2 : Expr} {op : CmpOp} {pos : Pos} {a b : Rn D} {f : D → D → MS → Res D} {r : R2} (ho : OpR X (compareOp op) r) (hf : Op2 c r f) (ha : PE X e1 (liftE c W a)) (hb : PE X e2 (liftE c W b)) (hm : behindInMarks op e2 = false := by rfl) : PT X (.Compare e1 [op] [e2] pos) (liftT c W (rB (rOp2 f a b))) :=
  t_of (pt_cmpR ho ha hb hm) fun σ H Q h => two hf h
theorem t_val {e : Expr} {a : Rn D} (h : PE X e (liftE c W a)) (he : ∀ whole, isTrue e X.env whole = (do let v ← whole; standAt e.pos; holding [v] (truthy v)) := by intro _; rfl) : PT X e (liftT c W (rB a)) :=
  t_of (t := liftE c W a) (pt_val h he) fun _ _ _ q => q
def rNotT (a : Rn Bool) : Rn Bool := fun ρ M => (a ρ M).bind fun b M1 => .ok (!b) M1
def rAndT (a b : Rn Bool) : Rn Bool := fun ρ M => (a ρ M).bind fun k M1 => if k = true then b ρ M1 else .ok false M1
def rOrT (a b : Rn Bool) : Rn Bool := fun ρ M => (a ρ M).bind fun k M1 => if k = true then .ok true M1 else b ρ M1
theorem t_not {e : Expr} {pos : Pos} {a : Rn Bool} (h : PT X e (liftT c W a)) : PT X (.UnaryOp .Not e pos) (liftT c W (rNotT a)) :=
  PT.imp (pt_not h) fun σ H Q ⟨ρ, M, θ, P, w, er, o⟩ => ⟨ρ, M, θ, P, w, er, Out.bind (R := RB) o fun d M1 v H1 θ1 P1 w1 s1 r1 o1 => by subst r1; exact Out.now (R := RB) w1 o1 rfl⟩
theorem w_and1 {e : Expr} {pos : Pos} {a : Rn Bool} (h : PT X e (liftT c W a)) : PW X (.BoolOp .And [e] pos) (liftT c W a) := pw_and1 h
theorem w_or1 {e : Expr} {pos : Pos} {a : Rn Bool} (h : PT X e (liftT c W a)) : PW X (.BoolOp .Or [e] pos) (liftT c W a) := pw_or1 h
theorem PW.imp {e : Expr} {t t' : TT} (h : PW X e t) (k : ∀ σ H Q, t' σ H Q → t σ H Q) : PW X e t' := ⟨fun wh pins s σ H Q I q => h.run wh pins s σ H Q I (k _ _ _ q)⟩
theorem w_and {e e2 : Expr} {rest : List Expr} {pos : Pos} {a b : Rn Bool} (h : PT X e (liftT c W a)) (h2 : PW X (.BoolOp .And (e2 :: rest) pos) (liftT c W b)) : PW X (.BoolOp .And (e :: e2 :: rest) pos) (liftT c W (rAndT a b)) :=
  PW.imp (pw_and h h2) fun σ H Q ⟨ρ, M, θ, P, w, er, o⟩ => ⟨ρ, M, θ, P, w, er, Out.bind (R := RB) o fun d M1 v H1 θ1 P1 w1 s1 r1 o1 => by
    subst r1
    cases v with
    | true => exact (if_pos rfl).mpr ⟨ρ, M1, θ1, P1, w1, er.step s1, o1⟩
    | false => exact (if_neg Bool.false_ne_true).mpr (Out.now (R := RB) w1 o1 rfl)⟩
theorem w_or {e e2 : Expr} {rest : List Expr} {pos : Pos} {a b : Rn Bool} (h : PT X e (liftT c W a)) (h2 : PW X (.BoolOp .Or (e2 :: rest) pos) (liftT c W b)) : PW X (.BoolOp .Or (e :: e2 :: rest) pos) (liftT c W (rOrT a b)) :=
  PW.imp (pw_or h h2) fun σ H Q ⟨ρ, M, θ, P, w, er, o⟩ => ⟨ρ, M, θ, P, w, er, Out.bind (R := RB) o fun d M1 v H1 θ1 P1 w1 s1 r1 o1 => by
    subst r1
    cases v with
    | true => exact (if_pos rfl).mpr (Out.now (R := RB) w1 o1 rfl)
    | false => exact (if_neg Bool.false_ne_true).mpr ⟨ρ, M1, θ1, P1, w1, er.step s1, o1⟩⟩
/-- and, or, not of truth values, as values -/
def rAndV (a b : Rn D) : Rn D := fun ρ M => (a ρ M).bind fun x M1 => (toB x M1).bind fun k M2 => if k = true then b ρ M2 else .ok (.bl false) M2
def rOrV (a b : Rn D) : Rn D := fun ρ M => (a ρ M).bind fun x M1 => (toB x M1).bind fun k M2 => if k = true then .ok (.bl true) M2 else b ρ M2
def rNotV (a : Rn D) : Rn D := fun ρ M => (a ρ M).bind fun x M1 => (toB x M1).bind fun k M2 => .ok (.bl (!k)) M2
theorem s_one {op} {e : Expr} {pos : Pos} {a : Rn D} (h : PE X e (liftE c W a)) : PE X (.BoolOp op [e] pos) (liftE c W a) := pe_one h
theorem s_and {e e2 : Expr} {rest : List Expr} {pos : Pos} {a b : Rn D} (h : PE X e (liftE c W a)) (h2 : PE X (.BoolOp .And (e2 :: rest) pos) (liftE c W b)) : PE X (.BoolOp .And (e :: e2 :: rest) pos) (liftE c W (rAndV a b)) :=
  PE.imp (pe_and h h2) fun σ H Q ⟨ρ, M, θ, P, w, er, o⟩ => ⟨ρ, M, θ, P, w, er, Out.bind (R := RV c) o fun d M1 v H1 θ1 P1 w1 s1 r1 o1 => by
    cases d with
    | bl k =>
      refine ⟨k, r1, ?_⟩
      cases k with
      | true => exact (if_pos rfl).mpr ⟨ρ, M1, θ1, P1, w1, er.step s1, o1⟩
      | false => exact (if_neg Bool.false_ne_true).mpr (Out.now (R := RV c) w1 o1 rfl)
    | _ => exact o1.elim⟩
theorem s_or {e e2 : Expr} {rest : List Expr} {pos : Pos} {a b : Rn D} (h : PE X e (liftE c W a)) (h2 : PE X (.BoolOp .Or (e2 :: rest) pos) (liftE c W b)) : PE X (.BoolOp .Or (e :: e2 :: rest) pos) (liftE c W (rOrV a b)) :=
  PE.imp (pe_or h h2) fun σ H Q ⟨ρ, M, θ, P, w, er, o⟩ => ⟨ρ, M, θ, P, w, er, Out.bind (R := RV c) o fun d M1 v H1 θ1 P1 w1 s1 r1 o1 => by
    cases d with
    | bl k =>
      refine ⟨k, r1, ?_⟩
      cases k with
      | true => exact (if_pos rfl).mpr (Out.now (R := RV c) w1 o1 rfl)
      | false => exact (if_neg Bool.false_ne_true).mpr ⟨ρ, M1, θ1, P1, w1, er.step s1, o1⟩
    | _ => exact o1.elim⟩
theorem s_not {e : Expr} {pos : Pos} {a : Rn D} (h : PE X e (liftE c W a)) : PE X (.UnaryOp .Not e pos) (liftE c W (rNotV a)) :=
  PE.imp (pe_not h) fun σ H Q ⟨ρ, M, θ, P, w, er, o⟩ => ⟨ρ, M, θ, P, w, er, Out.bind (R := RV c) o fun d M1 v H1 θ1 P1 w1 s1 r1 o1 => by
    cases d with
    | bl k => exact ⟨k, r1, Out.now (R := RV c) w1 o1 rfl⟩
    | _ => exact o1.elim⟩
def rIf (t : Rn Bool) (a b : Rn D) : Rn D := fun ρ M => (t ρ M).bind fun k M1 => if k = true then a ρ M1 else b ρ M1
theorem s_if {e0 e1 e2 : Expr} {pos : Pos} {t : Rn Bool} {a b : Rn D} (h : PT X e0 (liftT c W t)) (h1 : PE X e1 (liftE c W a)) (h2 : PE X e2 (liftE c W b)) : PE X (.IfExp e0 e1 e2 pos) (liftE c W (rIf t a b)) :=
  PE.imp (pe_ifExp h h1 h2) fun σ H Q ⟨ρ, M, θ, P, w, er, o⟩ => ⟨ρ, M, θ, P, w, er, Out.bind (R := RB) o fun d M1 v H1 θ1 P1 w1 s1 r1 o1 => by
    subst r1
    cases v with
    | true => exact (if_pos rfl).mpr ⟨ρ, M1, θ1, P1, w1, er.step s1, o1⟩
    | false => exact (if_neg Bool.false_ne_true).mpr ⟨ρ, M1, θ1, P1, w1, er.step s1, o1⟩⟩
end
end Q

namespace Q
open PySem PySem.Spec PyProof.Rows L2

/-! ### statements -/
inductive SR where
  | nx (ρ : Ev) (M : MS)
  | rt (d : D) (M : MS)
  | bk (ρ : Ev) (M : MS)
  | ct (ρ : Ev) (M : MS)
  | err (n : Str) (fs : List (Str × D)) (ρ : Ev) (M : MS)
  | stuck
abbrev Sn := Ev → MS → SR
def OutS (c : Cl) (θ : List Addr) (P H : Hp) (E : Ends) (W : WX) : SR → Prop
  | .nx ρ' M' => ∀ σ' H' θ' P', Wo c θ' P' H' M' → Stp θ P H θ' P' H' → ER c θ' P' ρ' σ' → E.nx σ' H'
  | .rt d M' => ∀ v H' θ' P', Wo c θ' P' H' M' → Stp θ P H θ' P' H' → VR c θ' P' d v → E.rt v H'
  | .bk ρ' M' => ∀ σ' H' θ' P', Wo c θ' P' H' M' → Stp θ P H θ' P' H' → ER c θ' P' ρ' σ' → E.bk σ' H'
  | .ct ρ' M' => ∀ σ' H' θ' P', Wo c θ' P' H' M' → Stp θ P H θ' P' H' → ER c θ' P' ρ' σ' → E.ct σ' H'
  | .err n fs ρ' M' => ∀ cv dd σ' H' θ' P', Wo c θ' P' H' M' → Stp θ P H θ' P' H' → ER c θ' P' ρ' σ' → XR c θ' P' H' n fs cv dd → W cv dd σ' H'
  | .stuck => False
section
variable {c : Cl} {θ : List Addr} {P H : Hp} {E E' : Ends} {W : WX}
theorem OutS.base {θ1 : List Addr} {P1 H1 : Hp} {r : SR} (s : Stp θ P H θ1 P1 H1) (h : OutS c θ P H E W r) : OutS c θ1 P1 H1 E W r := by
  cases r with
  | nx ρ M => exact fun a b e f w s' x => h a b e f w (s.trans s') x
  | rt ρ M => exact fun a b e f w s' x => h a b e f w (s.trans s') x
  | bk ρ M => exact fun a b e f w s' x => h a b e f w (s.trans s') x
  | ct ρ M => exact fun a b e f w s' x => h a b e f w (s.trans s') x
  | err n fs ρ M => exact fun a b e f g i w s' x => h a b e f g i w (s.trans s') x
  | stuck => exact h
/-- an expression's run within a statement's -/
def bindS {α : Type} (r : Res α) (ρ : Ev) (f : α → MS → SR) : SR := match r with
  | .ok a M => f a M
  | .err n fs M => .err n fs ρ M
  | .stuck => .stuck
theorem OutS.bind {α β : Type} {R : List Addr → Hp → Hp → α → β → Prop} {Q : β → Hp → Prop} {ρ : Ev} {σ : L2.St} {r : Res α} {f : α → MS → SR} (er : ER c θ P ρ σ) (h : OutS c θ P H E W (bindS r ρ f))
    (k : ∀ a M1 b H1 θ1 P1, Wo c θ1 P1 H1 M1 → Stp θ P H θ1 P1 H1 → R θ1 P1 H1 a b → ER c θ1 P1 ρ σ → OutS c θ1 P1 H1 E W (f a M1) → Q b H1) : Out c R θ P H Q (fun cv dd H' => W cv dd σ H') r := by
  cases r with
  | ok a M1 => exact fun b H1 θ1 P1 w s x => k a M1 b H1 θ1 P1 w s x (er.step s) (OutS.base s h)
  | err n fs M' => exact fun cv dd H' θ' P' w s x => h cv dd σ H' θ' P' w s (er.step s) x
  | stuck => exact h
end
def liftS (c : Cl) (W : WX) (run : Sn) : TS := fun E σ H => ∃ ρ M θ P, Wo c θ P H M ∧ ER c θ P ρ σ ∧ OutS c θ P H E W (run ρ M)
theorem PS.imp {X : Cx} {st : Stmt} {t t' : TS} (h : PS X st t) (k : ∀ E σ H, t' E σ H → t E σ H) : PS X st t' := ⟨fun pins s σ H E I q => h.run pins s σ H E I (k _ _ _ q)⟩
theorem PSs.imp {X : Cx} {st : List Stmt} {t t' : TS} (h : PSs X st t) (k : ∀ E σ H, t' E σ H → t E σ H) : PSs X st t' := ⟨fun pins s σ H E I q => h.run pins s σ H E I (k _ _ _ q)⟩

section
variable {X : Cx} {c : Cl} {W : WX}
def rNx : Sn := fun ρ M => .nx ρ M
def rThen (a b : Sn) : Sn := fun ρ M => match a ρ M with
  | .nx ρ' M' => b ρ' M'
  | r => r
theorem OutS.seq {θ : List Addr} {P H : Hp} {E : Ends} {a b : Sn} {ρ : Ev} {M : MS} (h : OutS c θ P H E W (rThen a b ρ M)) : OutS c θ P H { E with nx := liftS c W b E } W (a ρ M) := by
  unfold rThen at h
  cases q : a ρ M with
  | nx ρ' M' => simp only [q] at h; exact fun σ' H' θ' P' w s x => ⟨ρ', M', θ', P', w, x, OutS.base s h⟩
  | rt d M' => simp only [q] at h; exact h
  | bk d M' => simp only [q] at h; exact h
  | ct d M' => simp only [q] at h; exact h
  | err n fs d M' => simp only [q] at h; exact h
  | stuck => simp only [q] at h; exact h
theorem ss_nil : PSs X [] (liftS c W rNx) := PSs.imp pss_nil fun E σ H ⟨ρ, M, θ, P, w, er, o⟩ => o _ _ _ _ w .refl er
theorem ss_one {st : Stmt} {a : Sn} (h : PS X st (liftS c W a)) : PSs X [st] (liftS c W a) := pss_one h
theorem ss_cons {st : Stmt} {rest : List Stmt} {a b : Sn} (h1 : PS X st (liftS c W a)) (h2 : PSs X rest (liftS c W b)) : PSs X (st :: rest) (liftS c W (rThen a b)) :=
  PSs.imp (pss_cons h1 h2) fun E σ H ⟨ρ, M, θ, P, w, er, o⟩ => ⟨ρ, M, θ, P, w, er, OutS.seq o⟩
theorem st_pass {pos : Pos} : PS X (.Pass pos) (liftS c W rNx) := PS.imp ps_pass fun E σ H ⟨ρ, M, θ, P, w, er, o⟩ => o _ _ _ _ w .refl er
def rBk : Sn := fun ρ M => .bk ρ M
def rCt : Sn := fun ρ M => .ct ρ M
theorem st_break {pos : Pos} : PS X (.Break pos) (liftS c W rBk) := PS.imp ps_break fun E σ H ⟨ρ, M, θ, P, w, er, o⟩ => o _ _ _ _ w .refl er
theorem st_cont {pos : Pos} : PS X (.Continue pos) (liftS c W rCt) := PS.imp ps_continue fun E σ H ⟨ρ, M, θ, P, w, er, o⟩ => o _ _ _ _ w .refl er
def rRet (a : Rn D) : Sn := fun ρ M => bindS (a ρ M) ρ fun d M1 => .rt d M1
theorem st_ret {e : Expr} {pos : Pos} {a : Rn D} (h : PE X e (liftE c W a)) : PS X (.Return (some e) pos) (liftS c W (rRet a)) :=
  PS.imp (ps_ret h) fun E σ H ⟨ρ, M, θ, P, w, er, o⟩ => ⟨ρ, M, θ, P, w, er, OutS.bind (R := RV c) er o fun d M1 v H1 θ1 P1 w1 s1 r1 er1 o1 => o1 _ _ _ _ w1 .refl r1⟩
def rDrop (a : Rn D) : Sn := fun ρ M => bindS (a ρ M) ρ fun _ M1 => .nx ρ M1
theorem st_expr {e : Expr} {pos : Pos} {a : Rn D} (h : PE X e (liftE c W a)) (hs : swapsWith e none pos.line X.env = pure false := by rfl) : PS X (.Expr e pos) (liftS c W (rDrop a)) :=
  PS.imp (ps_expr h hs) fun E σ H ⟨ρ, M, θ, P, w, er, o⟩ => ⟨ρ, M, θ, P, w, er, OutS.bind (R := RV c) er o fun d M1 v H1 θ1 P1 w1 s1 r1 er1 o1 => o1 _ _ _ _ w1 .refl er1⟩
def rIfS (t : Rn Bool) (a b : Sn) : Sn := fun ρ M => bindS (t ρ M) ρ fun k M1 => if k = true then a ρ M1 else b ρ M1
theorem st_if {e : Expr} {s1 s2 : List Stmt} {pos : Pos} {t : Rn Bool} {a b : Sn} (h : PT X e (liftT c W t)) (h1 : PSs X s1 (liftS c W a)) (h2 : PSs X s2 (liftS c W b)) : PS X (.If e s1 s2 pos) (liftS c W (rIfS t a b)) :=
  PS.imp (ps_if h h1 h2) fun E σ H ⟨ρ, M, θ, P, w, er, o⟩ => ⟨ρ, M, θ, P, w, er, OutS.bind (R := RB) er o fun d M1 v H1 θ1 P1 w1 s1 r1 er1 o1 => by
    subst r1
    cases v with
    | true => exact (if_pos rfl).mpr ⟨ρ, M1, θ1, P1, w1, er1, o1⟩
    | false => exact (if_neg Bool.false_ne_true).mpr ⟨ρ, M1, θ1, P1, w1, er1, o1⟩⟩
/-! ### stores in names -/
/-- what a target does with a value: bd is its work on the data, vs the slots that it stores -/
structure TgOk (c : Cl) (g : TG) (vs : List Nat) (bd : D → Ev → Option Ev) : Prop where
  run : ∀ θ P H d v ρ (σ : L2.St) ρ' (Q : L2.St → Hp → Prop), VR c θ P d v → ER c θ P ρ σ → (∀ b o, P b = some o → H b = some o) → bd d ρ = some ρ' →
    (∀ σ', ER c θ P ρ' σ' → σ'.length = σ.length → (∀ j, j ∉ vs → σ'[j]? = σ[j]?) → Q σ' H) → g v σ H Q
def bName (i : Nat) : D → Ev → Option Ev := fun d ρ => some (ρ.set i (some d))
theorem tg_name {i : Nat} : TgOk c (gName i) [i] (bName i) := ⟨fun θ P H d v ρ σ ρ' Q r er _ e h => by
  cases e
  exact h _ (er.set i r) (by simp) fun j hj => List.getElem?_set_ne (fun q => hj (by simp [q]))⟩
def bNames : List Nat → List D → Ev → Option Ev
  | [], [], ρ => some ρ
  | i :: is, d :: ds, ρ => bNames is ds (ρ.set i (some d))
  | _, _, _ => none
def bTup (is : List Nat) : D → Ev → Option Ev
  | .tup ds, ρ => bNames is ds ρ
  | _, _ => none
def gNames : List Nat → TGs
  | [] => gNil
  | i :: is => gCons (gName i) (gNames is)
theorem bNames_len : ∀ {is : List Nat} {ds : List D} {ρ ρ' : Ev}, bNames is ds ρ = some ρ' → ds.length = is.length
  | [], [], _, _, _ => rfl
  | [], _ :: _, _, _, h => by simp [bNames] at h
  | _ :: _, [], _, _, h => by simp [bNames] at h
  | _ :: is, _ :: ds, ρ, ρ', h => by simp only [bNames] at h; simp [bNames_len h]
theorem names_run {θ : List Addr} {P H : Hp} {Q : L2.St → Hp → Prop} : ∀ {is : List Nat} {ds : List D} {vs : List V} {ρ ρ' : Ev} {σ : L2.St}, VRL c θ P ds vs → ER c θ P ρ σ → bNames is ds ρ = some ρ' →
    (∀ σ', ER c θ P ρ' σ' → σ'.length = σ.length → (∀ j, j ∉ is → σ'[j]? = σ[j]?) → Q σ' H) → gNames is vs σ H Q
  | [], [], _, ρ, ρ', σ, r, er, e, h => by
    cases e
    cases r
    exact ⟨rfl, h _ er rfl fun _ _ => rfl⟩
  | [], _ :: _, _, _, _, _, _, _, h, _ => by simp [bNames] at h
  | _ :: _, [], _, _, _, _, _, _, h, _ => by simp [bNames] at h
  | i :: is, d :: ds, _, ρ, ρ', σ, ⟨v, r, e, a, b⟩, er, q, h => by
    subst e
    exact ⟨v, r, rfl, names_run b (er.set i a) q fun σ' er' l' k' => h σ' er' (by rw [l', List.length_set]) fun j hj => by
      rw [k' j (fun m => hj (List.mem_cons_of_mem _ m)), List.getElem?_set_ne (fun q => hj (by simp [q]))]⟩
theorem tg_tup {K : PySem.W.Frag} {n : Nat} {is : List Nat} (hK : c.K = K) (hn : is.length = n) : TgOk c (gTup K n (gNames is)) is (bTup is) := ⟨fun θ P H d v ρ σ ρ' Q r er sub e h => by
  subst hK
  cases d with
  | tup ds =>
    obtain ⟨a, vs, rfl, sq, rl⟩ := r
    exact ⟨a, vs, rfl, sqT_mono sub sq, by rw [rl.length, bNames_len e, hn], names_run rl er e h⟩
  | _ => simp [bTup] at e⟩
def rAsg (a : Rn D) (bd : D → Ev → Option Ev) : Sn := fun ρ M => bindS (a ρ M) ρ fun d M1 => match bd d ρ with
  | some ρ' => .nx ρ' M1
  | none => .stuck
theorem asg_run {te : TE} {a : Rn D} {g : TG} {vs : List Nat} {bd : D → Ev → Option Ev} (hg : TgOk c g vs bd) {E : Ends} {σ : L2.St} {H : Hp} (h : liftS c W (rAsg a bd) E σ H) (k : ∀ Q, liftE c W a σ H Q → te σ H Q) : tAsg te g E σ H := by
  obtain ⟨ρ, M, θ, P, w, er, o⟩ := h
  refine k _ ⟨ρ, M, θ, P, w, er, OutS.bind (R := RV c) er o fun d M1 v H1 θ1 P1 w1 s1 r1 er1 o1 => ?_⟩
  cases q : bd d ρ with
  | none => simp only [q] at o1; exact o1.elim
  | some ρ' =>
    simp only [q] at o1
    exact hg.run θ1 P1 H1 d v ρ σ ρ' E.nx r1 er1 w1.sub q fun σ' er' _ _ => o1 _ _ _ _ w1 .refl er'
theorem st_set {i : Nat} {x : Str} {e : Expr} {pos pos' : Pos} {a : Rn D} (hN : X.N.Nodup) (hi : X.N[i]? = some x) (hx : Loc X.env.scope x) (h : PE X e (liftE c W a)) (hs : swapsWith e (some (.Name x pos')) pos.line X.env = pure false := by rfl) (hf : X.fn x = true ∨ X.env.scope.names.lookup x = some .local := by first | exact .inl rfl | exact .inr rfl | assumption) :
    PS X (.Assign [.Name x pos'] e pos) (liftS c W (rAsg a (bName i))) :=
  PS.imp (ps_set hN hi hx h hs hf) fun E σ H q => asg_run tg_name q fun _ z => z
theorem st_asg {tg e : Expr} {pos : Pos} {g : TG} {vs : List Nat} {bd : D → Ev → Option Ev} {a : Rn D} (hg : PG X tg g) (ok : TgOk c g vs bd) (h : PE X e (liftE c W a)) (hs : swapsWithSole [tg] e pos.line X.env = pure false := by rfl) (hw : swappedStores [tg] e X.env = pure none := by rfl)
    (h1 : (assignEach [tg] X.env).map (·.2) = [assign tg X.env] := by rfl) : PS X (.Assign [tg] e pos) (liftS c W (rAsg a bd)) :=
  PS.imp (ps_asg h hg hs hw h1) fun E σ H q => asg_run ok q fun _ z => z
/-- a, b = x, y -/
def rPar (i j : Nat) (a : Rn (List D)) : Sn := fun ρ M => bindS (a ρ M) ρ fun ds M1 => match ds with
  | [d, e] => .nx ((ρ.set i (some d)).set j (some e)) M1
  | _ => .stuck
theorem st_par {i j : Nat} {x y : Str} {a b : Expr} {px py pt pos : Pos} {kt k2 pt2} {ra : Rn (List D)} (hc : X.calm = true) (hN : X.N.Nodup) (hi : X.N[i]? = some x) (hj : X.N[j]? = some y) (hij : i ≠ j)
    (hx : X.env.scope.names.lookup x = some .local) (hy : X.env.scope.names.lookup y = some .local) (ha : PA X [a, b] (liftA c W ra)) (h : PS X (.Assign [.Tuple [.Name x px, .Name y py] kt pt] (.Tuple [a, b] k2 pt2) pos) (tPar i j (liftA c W ra))) :
    PS X (.Assign [.Tuple [.Name x px, .Name y py] kt pt] (.Tuple [a, b] k2 pt2) pos) (liftS c W (rPar i j ra)) :=
  PS.imp h fun E σ H ⟨ρ, M, θ, P, w, er, o⟩ => ⟨ρ, M, θ, P, w, er, OutS.bind (R := RL c) er o fun ds M1 vs H1 θ1 P1 w1 s1 r1 er1 o1 => by
    match ds, o1 with
    | [d, e], o1 =>
      obtain ⟨v, r, rfl, r2, v2, r3, rfl, r4, rfl⟩ := r1
      exact ⟨v, v2, rfl, o1 _ _ _ _ w1 .refl ((er1.set i r2).set j r4)⟩
    | [], o1 => exact o1.elim
    | [_], o1 => exact o1.elim
    | _ :: _ :: _ :: _, o1 => exact o1.elim⟩

/-! ### what a for walks -/
def SrcOk (c : Cl) (θ0 : List Addr) (P0 H0 : Hp) (ds : List D) (J : It) : Prop := ∀ (i : Nat) θ P H M, Wo c θ P H M → Stp θ0 P0 H0 θ P H →
  (∀ d, ds[i]? = some d → J.go i H ∧ ∀ x H', J.yld i H x H' → ∃ P', Wo c θ P' H' M ∧ Stp θ P H θ P' H' ∧ VR c θ P' d x) ∧ (ds.length ≤ i → J.stop i H)
theorem SrcOk.step {θ0 θ1 : List Addr} {P0 H0 P1 H1 : Hp} {J : It} {ds : List D} (h : SrcOk c θ0 P0 H0 ds J) (s : Stp θ0 P0 H0 θ1 P1 H1) : SrcOk c θ1 P1 H1 ds J := fun i θ P H M w s' => h i θ P H M w (s.trans s')
abbrev RI (c : Cl) : List Addr → Hp → Hp → List D → It → Prop := fun θ P H ds J => SrcOk c θ P H ds J
def liftI (c : Cl) (W : WX) (run : Rn (List D)) : TI := fun σ H R => ∃ ρ M θ P, Wo c θ P H M ∧ ER c θ P ρ σ ∧ Out c (RI c) θ P H R (fun cv dd H' => W cv dd σ H') (run ρ M)
theorem PI.imp {tg iter : Expr} {t t' : TI} (h : PI X tg iter t) (k : ∀ σ H R, t' σ H R → t σ H R) : PI X tg iter t' := ⟨fun pins s σ H R I q => h.run pins s σ H R I (k _ _ _ q)⟩
theorem PI.both {tg iter : Expr} {t t' : TI} (h : PI X tg iter t) (h' : PI X tg iter t') : PI X tg iter (fun σ H R => t σ H R ∨ t' σ H R) := ⟨fun pins s σ H R I q => q.elim (h.run pins s σ H R I) (h'.run pins s σ H R I)⟩
def chars (s : Str) : List D := s.cps.toList.map fun k => .str ⟨#[k]⟩
def itemsOf : D → Option (List D)
  | .lst ds => some ds
  | .scr ds => some ds
  | .tup ds => some ds
  | .str s => some (chars s)
  | _ => none
def rItems (a : Rn D) : Rn (List D) := fun ρ M => (a ρ M).bind fun d M1 => match itemsOf d with
  | some ds => .ok ds M1
  | none => .stuck
section
variable {θ0 : List Addr} {P0 H0 : Hp} {ds : List D} {vs : List V} {a : Addr}
theorem src_list (K : PySem.W.Frag) (hK : c.K = K) (r : VRL c θ0 P0 ds vs) (sq : SqL K P0 a vs) : SrcOk c θ0 P0 H0 ds (Itl K a) := fun i θ P H M w s => by
  have sq' : SqL K H a vs := sqL_mono (fun b o e => w.sub b o (s.pext b o e)) sq
  refine ⟨fun d e => ?_, fun hl => ⟨vs, sq', by rw [r.length]; exact hl⟩⟩
  obtain ⟨v, e1, rv⟩ := r.get e
  exact ⟨⟨vs, v, sq', e1⟩, fun x H' ⟨e2, e3⟩ => ⟨P, by rw [e2]; exact w, by rw [e2]; exact .refl, by have := e3 vs sq'; rw [e1] at this; cases this; exact rv.step s⟩⟩
theorem src_tup (K : PySem.W.Frag) (hK : c.K = K) (r : VRL c θ0 P0 ds vs) (sq : SqT K P0 a vs) : SrcOk c θ0 P0 H0 ds (Itt K a) := fun i θ P H M w s => by
  have sq' : SqT K H a vs := sqT_mono (fun b o e => w.sub b o (s.pext b o e)) sq
  refine ⟨fun d e => ?_, fun hl => ⟨vs, sq', by rw [r.length]; exact hl⟩⟩
  obtain ⟨v, e1, rv⟩ := r.get e
  exact ⟨⟨vs, v, sq', e1⟩, fun x H' ⟨e2, e3⟩ => ⟨P, by rw [e2]; exact w, by rw [e2]; exact .refl, by have := e3 vs sq'; rw [e1] at this; cases this; exact rv.step s⟩⟩
theorem src_str {s : Str} : SrcOk c θ0 P0 H0 (chars s) (Its s) := fun i θ P H M w st => by
  refine ⟨fun d e => ?_, fun hl => ?_⟩
  · unfold chars at e
    rw [List.getElem?_map] at e
    cases q : s.cps.toList[i]? with
    | none => rw [q] at e; cases e
    | some k =>
      rw [q] at e
      cases e
      have q' : s.cps[i]? = some k := by simpa using q
      refine ⟨(Array.getElem?_eq_some_iff.mp q').1, fun x H' ⟨e2, k', e3, e4⟩ => ⟨P, by rw [e2]; exact w, by rw [e2]; exact .refl, ?_⟩⟩
      rw [q'] at e3; cases e3
      exact e4
  · unfold chars at hl
    show s.cps.size ≤ i
    simpa using hl
end
theorem i_items {tg e : Expr} {ra : Rn D} (hK : c.K = X.K) (h : PE X e (liftE c W ra)) : PI X tg e (liftI c W (rItems ra)) :=
  PI.imp (PI.both (pi_list h) (PI.both (pi_tup h) (pi_str h))) fun σ H R ⟨ρ, M, θ, P, w, er, o⟩ => by
    unfold rItems at o
    cases q : ra ρ M with
    | stuck => rw [q] at o; exact o.elim
    | err n fs M1 =>
      rw [q] at o
      exact .inl ⟨ρ, M, θ, P, w, er, by rw [q]; exact o⟩
    | ok d M1 =>
      rw [q] at o
      have o' : Out c (RI c) θ P H R (fun cv dd H' => W cv dd σ H') (match itemsOf d with | some ds => .ok ds M1 | none => .stuck) := o
      cases d with
      | lst ds =>
        refine .inl ⟨ρ, M, θ, P, w, er, ?_⟩
        rw [q]
        exact fun v H1 θ1 P1 w1 s1 r1 => by
          obtain ⟨a, vs, rfl, sq, rl⟩ := r1
          have sq : SqL X.K P1 a vs := .inl (.inl sq)
          exact ⟨a, rfl, ⟨vs, sqL_mono w1.sub sq⟩, o' _ H1 θ1 P1 w1 s1 (src_list X.K hK rl sq)⟩
      | scr ds =>
        refine .inl ⟨ρ, M, θ, P, w, er, ?_⟩
        rw [q]
        exact fun v H1 θ1 P1 w1 s1 r1 => by
          obtain ⟨a, vs, rfl, sq, rl⟩ := r1
          rw [hK] at sq
          exact ⟨a, rfl, ⟨vs, sqL_mono w1.sub sq⟩, o' _ H1 θ1 P1 w1 s1 (src_list X.K hK rl sq)⟩
      | tup ds =>
        refine .inr (.inl ⟨ρ, M, θ, P, w, er, ?_⟩)
        rw [q]
        exact fun v H1 θ1 P1 w1 s1 r1 => by
          obtain ⟨a, vs, rfl, sq, rl⟩ := r1
          rw [hK] at sq
          exact ⟨a, rfl, ⟨vs, sqT_mono w1.sub sq⟩, o' _ H1 θ1 P1 w1 s1 (src_tup X.K hK rl sq)⟩
      | str s =>
        refine .inr (.inr ⟨ρ, M, θ, P, w, er, ?_⟩)
        rw [q]
        exact fun v H1 θ1 P1 w1 s1 r1 => ⟨s, r1, o' _ H1 θ1 P1 w1 s1 src_str⟩
      | _ => exact o'.elim
/-- range(..) -/
def upto (lo : Int) (n : Nat) : List D := (List.range n).map fun (k : Nat) => .int (lo + (k : Int))
theorem upto_get {lo : Int} {n i : Nat} {d : D} (h : (upto lo n)[i]? = some d) : i < n ∧ d = .int (lo + (i : Int)) := by
  unfold upto at h
  rw [List.getElem?_map] at h
  by_cases q : i < n
  · rw [List.getElem?_range q] at h
    cases h
    exact ⟨q, rfl⟩
  · rw [List.getElem?_eq_none (by simpa using q)] at h
    cases h
theorem src_range {θ0 : List Addr} {P0 H0 : Hp} {lo : Int} {n : Nat} : SrcOk c θ0 P0 H0 (upto lo n) (Itr lo n) := fun i θ P H M w st => by
  refine ⟨fun d e => ?_, fun hl => by unfold upto at hl; simpa [Itr] using hl⟩
  obtain ⟨hi, rfl⟩ := upto_get e
  exact ⟨hi, fun x H' ⟨e2, e3⟩ => ⟨P, by rw [e2]; exact w, by rw [e2]; exact .refl, e3⟩⟩
def near (i : Int) : Bool := decide (-4611686018427387904 ≤ i ∧ i < 4611686018427387904)
def rRange1 (a : Rn (List D)) : Rn (List D) := fun ρ M => (a ρ M).bind fun ds M1 => match ds with
  | [.int j] => rGuard (near j) (.ok (upto 0 j.toNat) M1)
  | _ => .stuck
def rRange2 (a : Rn (List D)) : Rn (List D) := fun ρ M => (a ρ M).bind fun ds M1 => match ds with
  | [.int i, .int j] => rGuard (near i && near j) (.ok (upto i (j - i).toNat) M1)
  | _ => .stuck
theorem i_range1 {tg a : Expr} {p pos : Pos} {ra : Rn (List D)} (hm : X.mg "range" = none) (h : PA X [a] (liftA c W ra)) (hg : Gl X "range" := by rfl) (hs : starEach [a] X.env = [(false, eval a X.env)] := by rfl) : PI X tg (.Call (.Name "range" p) [a] [] pos) (liftI c W (rRange1 ra)) :=
  PI.imp (pi_range1 hg hm h hs) fun σ H R ⟨ρ, M, θ, P, w, er, o⟩ => ⟨ρ, M, θ, P, w, er, Out.bind (R := RL c) o fun ds M1 vs H1 θ1 P1 w1 s1 r1 o1 => by
    match ds, o1 with
    | [.int j], o1 =>
      obtain ⟨v, r, rfl, r2, rfl⟩ := r1
      cases r2
      obtain ⟨g, o1⟩ := Out.guard (R := RI c) o1
      obtain ⟨g1, g2⟩ := of_decide_eq_true g
      exact ⟨j, rfl, g1, g2, Out.now (R := RI c) w1 o1 src_range⟩⟩
theorem i_range2 {tg a b : Expr} {p pos : Pos} {ra : Rn (List D)} (hm : X.mg "range" = none) (h : PA X [a, b] (liftA c W ra)) (hp : PI X tg (.Call (.Name "range" p) [a, b] [] pos) (iRng2 (liftA c W ra))) : PI X tg (.Call (.Name "range" p) [a, b] [] pos) (liftI c W (rRange2 ra)) :=
  PI.imp hp fun σ H R ⟨ρ, M, θ, P, w, er, o⟩ => ⟨ρ, M, θ, P, w, er, Out.bind (R := RL c) o fun ds M1 vs H1 θ1 P1 w1 s1 r1 o1 => by
    match ds, o1 with
    | [.int i, .int j], o1 =>
      obtain ⟨v, r, rfl, r2, v', r', rfl, r2', rfl⟩ := r1
      cases r2
      cases r2'
      obtain ⟨g, o1⟩ := Out.guard (R := RI c) o1
      obtain ⟨ga, gb⟩ := Bool.and_eq_true_iff.mp g
      obtain ⟨g1, g2⟩ := of_decide_eq_true ga
      obtain ⟨g3, g4⟩ := of_decide_eq_true gb
      exact ⟨i, j, rfl, ⟨g1, g2, g3, g4⟩, Out.now (R := RI c) w1 o1 src_range⟩⟩
/-- enumerate, zip -/
def paired (ds : List D) (es : List D) : List D := (ds.zip es).map fun p => .tup [p.1, p.2]
def numbered (ds : List D) : List D := paired (upto 0 ds.length) ds
theorem paired_get {ds es : List D} {i : Nat} {d : D} (h : (paired ds es)[i]? = some d) : ∃ x y, ds[i]? = some x ∧ es[i]? = some y ∧ d = .tup [x, y] := by
  unfold paired at h
  rw [List.getElem?_map] at h
  cases q : (ds.zip es)[i]? with
  | none => rw [q] at h; cases h
  | some p =>
    rw [q] at h
    cases h
    rw [List.getElem?_zip_eq_some] at q
    exact ⟨p.1, p.2, q.1, q.2, rfl⟩
section
variable {θ0 : List Addr} {P0 H0 : Hp} {ds es : List D} {vs us : List V} {a b : Addr}
theorem src_enum (K : PySem.W.Frag) (hK : c.K = K) (r : VRL c θ0 P0 ds vs) (sq : SqL K P0 a vs) : SrcOk c θ0 P0 H0 (numbered ds) (Ite K a) := fun i θ P H M w s => by
  have sq' : SqL K H a vs := sqL_mono (fun b o e => w.sub b o (s.pext b o e)) sq
  refine ⟨fun d e => ?_, fun hl => ⟨vs, sq', by rw [r.length]; simpa [numbered, paired, upto] using hl⟩⟩
  obtain ⟨x, y, e1, e2, rfl⟩ := paired_get e
  obtain ⟨_, rfl⟩ := upto_get e1
  obtain ⟨v, e3, rv⟩ := r.get e2
  refine ⟨⟨vs, v, sq', e3⟩, fun x H' ⟨T, z, hx, hT, hH, hz⟩ => ?_⟩
  have := hz vs sq'
  rw [e3] at this; cases this
  obtain ⟨w', s'⟩ := w.newP (o := .tup [.int (i : Nat), v]) hT
  refine ⟨_, by rw [hH]; exact w', by rw [hH]; exact s', T, _, hx, .inl (.inl upd_same), ⟨.int (i : Nat), [v], rfl, by show V.int _ = V.int _; rw [Int.zero_add], v, [], rfl, (rv.step s).step s', rfl⟩⟩
theorem src_zip (K : PySem.W.Frag) (hK : c.K = K) (r : VRL c θ0 P0 ds vs) (sq : SqL K P0 a vs) (r2 : VRL c θ0 P0 es us) (sq2 : SqL K P0 b us) : SrcOk c θ0 P0 H0 (paired ds es) (Itz K a b) := fun i θ P H M w s => by
  have sq' : SqL K H a vs := sqL_mono (fun b o e => w.sub b o (s.pext b o e)) sq
  have sq2' : SqL K H b us := sqL_mono (fun b o e => w.sub b o (s.pext b o e)) sq2
  refine ⟨fun d e => ?_, fun hl => ⟨vs, us, sq', sq2', by rw [r.length, r2.length]; simp [paired] at hl; omega⟩⟩
  obtain ⟨x, y, e1, e2, rfl⟩ := paired_get e
  obtain ⟨v, e3, rv⟩ := r.get e1
  obtain ⟨u, e4, ru⟩ := r2.get e2
  refine ⟨⟨vs, us, v, u, sq', sq2', e3, e4⟩, fun x H' ⟨T, z, z', hx, hT, hH, hz, hz'⟩ => ?_⟩
  have t1 := hz vs sq'
  have t2 := hz' us sq2'
  rw [e3] at t1; cases t1
  rw [e4] at t2; cases t2
  obtain ⟨w', s'⟩ := w.newP (o := .tup [v, u]) hT
  exact ⟨_, by rw [hH]; exact w', by rw [hH]; exact s', T, _, hx, .inl (.inl upd_same), ⟨v, [u], rfl, (rv.step s).step s', u, [], rfl, (ru.step s).step s', rfl⟩⟩
end
def rEnum (a : Rn (List D)) : Rn (List D) := fun ρ M => (a ρ M).bind fun ds M1 => match ds with
  | [.lst xs] => .ok (numbered xs) M1
  | _ => .stuck
def rZip (a : Rn (List D)) : Rn (List D) := fun ρ M => (a ρ M).bind fun ds M1 => match ds with
  | [.lst xs, .lst ys] => .ok (paired xs ys) M1
  | _ => .stuck
theorem i_enum {tg e : Expr} {ra : Rn (List D)} (hK : c.K = X.K) (hp : PI X tg e (iEnum X.K (liftA c W ra))) : PI X tg e (liftI c W (rEnum ra)) :=
  PI.imp hp fun σ H R ⟨ρ, M, θ, P, w, er, o⟩ => ⟨ρ, M, θ, P, w, er, Out.bind (R := RL c) o fun ds M1 vs H1 θ1 P1 w1 s1 r1 o1 => by
    match ds, o1 with
    | [.lst xs], o1 =>
      obtain ⟨v, r, rfl, ⟨a, ws, rfl, sq, rl⟩, rfl⟩ := r1
      have sq : SqL X.K P1 a ws := .inl (.inl sq)
      exact ⟨a, ws, rfl, sqL_mono w1.sub sq, Out.now (R := RI c) w1 o1 (src_enum X.K hK rl sq)⟩⟩
theorem i_zip {tg e : Expr} {ra : Rn (List D)} (hK : c.K = X.K) (hp : PI X tg e (iZip X.K (liftA c W ra))) : PI X tg e (liftI c W (rZip ra)) :=
  PI.imp hp fun σ H R ⟨ρ, M, θ, P, w, er, o⟩ => ⟨ρ, M, θ, P, w, er, Out.bind (R := RL c) o fun ds M1 vs H1 θ1 P1 w1 s1 r1 o1 => by
    match ds, o1 with
    | [.lst xs, .lst ys], o1 =>
      obtain ⟨v, r, rfl, ⟨a, ws, rfl, sq, rl⟩, v', r', rfl, ⟨a', ws', rfl, sq', rl'⟩, rfl⟩ := r1
      have sq : SqL X.K P1 a ws := .inl (.inl sq)
      have sq' : SqL X.K P1 a' ws' := .inl (.inl sq')
      exact ⟨a, a', ws, ws', rfl, sqL_mono w1.sub sq, sqL_mono w1.sub sq', Out.now (R := RI c) w1 o1 (src_zip X.K hK rl sq rl' sq')⟩⟩

/-! ### for, while -/
def loopF (bd : D → Ev → Option Ev) (body : Sn) : List D → Sn
  | [], ρ, M => .nx ρ M
  | d :: ds, ρ, M => match bd d ρ with
    | none => .stuck
    | some ρ1 => match body ρ1 M with
      | .nx ρ2 M2 => loopF bd body ds ρ2 M2
      | .ct ρ2 M2 => loopF bd body ds ρ2 M2
      | .bk ρ2 M2 => .nx ρ2 M2
      | r => r
def rFor (it : Rn (List D)) (bd : D → Ev → Option Ev) (body : Sn) : Sn := fun ρ M => bindS (it ρ M) ρ fun ds M1 => loopF bd body ds ρ M1
theorem st_for {tg iter : Expr} {body : List Stmt} {pos : Pos} {g : TG} {vs : List Nat} {bd : D → Ev → Option Ev} {it : Rn (List D)} {b : Sn} (hp : PassesOwn (model X.prog X.w) X.A X.env X.xe) (hc : X.calm = true) (hi : PI X tg iter (liftI c W it)) (hg : PG X tg g) (ok : TgOk c g vs bd) (hb : PSs X body (liftS c W b))
    (hs : ∀ x, foldedSetIterable iter X.env x = pure x := by intro _; rfl) : PS X (.For tg iter body [] pos) (liftS c W (rFor it bd b)) :=
  PS.imp (ps_for hp hc hi hg hb hs) fun E σ H ⟨ρ, M, θ, P, w, er, o⟩ => ⟨ρ, M, θ, P, w, er, OutS.bind (R := RI c) er o fun ds M1 J H1 θ1 P1 w1 s1 r1 er1 o1 => by
    refine ⟨fun i m σ H => m = ds.length - i ∧ i ≤ ds.length ∧ ∃ ρ M θ P, Wo c θ P H M ∧ Stp θ1 P1 H1 θ P H ∧ ER c θ P ρ σ ∧ OutS c θ P H E W (loopF bd b (ds.drop i) ρ M), ⟨_, rfl, Nat.zero_le _, ρ, M1, θ1, P1, w1, .refl, er1, by simpa using o1⟩, ?_⟩
    rintro i m σ2 H2 ⟨rfl, hi, ρ2, M2, θ2, P2, w2, s2, er2, o2⟩
    obtain ⟨k1, k2⟩ := r1 i θ2 P2 H2 M2 w2 s2
    rcases Nat.lt_or_ge i ds.length with hl | hl
    · have e : ds[i]? = some ds[i] := List.getElem?_eq_getElem hl
      obtain ⟨g1, g2⟩ := k1 _ e
      refine .inr ⟨g1, fun σ' H' => ∃ ρ M θ P, Wo c θ P H' M ∧ Stp θ1 P1 H1 θ P H' ∧ ER c θ P ρ σ' ∧ OutS c θ P H' E W (loopF bd b (ds.drop (i + 1)) ρ M), fun σ' H' q => ⟨ds.length - (i + 1), by omega, rfl, hl, q⟩, fun x H' y => ?_⟩
      obtain ⟨P', w', s', rx⟩ := g2 x H' y
      rw [List.drop_eq_getElem_cons hl] at o2
      unfold loopF at o2
      cases q : bd ds[i] ρ2 with
      | none => simp only [q] at o2; exact o2.elim
      | some ρ3 =>
        simp only [q] at o2
        refine ok.run θ2 P' H' _ x ρ2 σ2 ρ3 _ rx (er2.step s') w'.sub q fun σ3 er3 _ _ => ⟨ρ3, M2, θ2, P', w', er3, ?_⟩
        have o2 := OutS.base s' o2
        cases qb : b ρ3 M2 with
        | nx ρ4 M4 => simp only [qb] at o2; exact fun σ' H4 θ' P'' w4 s4 er4 => ⟨ρ4, M4, θ', P'', w4, (s2.trans s').trans s4, er4, OutS.base s4 o2⟩
        | ct ρ4 M4 => simp only [qb] at o2; exact fun σ' H4 θ' P'' w4 s4 er4 => ⟨ρ4, M4, θ', P'', w4, (s2.trans s').trans s4, er4, OutS.base s4 o2⟩
        | bk ρ4 M4 => simp only [qb] at o2; exact o2
        | rt d M4 => simp only [qb] at o2; exact o2
        | err n fs ρ4 M4 => simp only [qb] at o2; exact o2
        | stuck => simp only [qb] at o2; exact o2
    · refine .inl ⟨k2 hl, ?_⟩
      rw [List.drop_eq_nil_of_le hl] at o2
      exact o2 _ _ _ _ w2 .refl er2⟩
/-- while, at most n turns -/
def loopW (t : Rn Bool) (body : Sn) : Nat → Sn
  | 0, _, _ => .stuck
  | n + 1, ρ, M => bindS (t ρ M) ρ fun k M1 => if k = true then (match body ρ M1 with
      | .nx ρ2 M2 => loopW t body n ρ2 M2
      | .ct ρ2 M2 => loopW t body n ρ2 M2
      | .bk ρ2 M2 => .nx ρ2 M2
      | r => r) else .nx ρ M1
theorem st_while {e : Expr} {body : List Stmt} {pos : Pos} {t : Rn Bool} {b : Sn} (n : Nat) (hp : PassesOwn (model X.prog X.w) X.A X.env X.xe) (ht : PT X e (liftT c W t)) (hb : PSs X body (liftS c W b)) : PS X (.While e body [] pos) (liftS c W (loopW t b n)) :=
  PS.imp (ps_while hp ht hb) fun E σ H ⟨ρ, M, θ, P, w, er, o⟩ => by
    refine ⟨fun m σ H => ∃ ρ M θ P, Wo c θ P H M ∧ ER c θ P ρ σ ∧ OutS c θ P H E W (loopW t b m ρ M), ⟨n, ρ, M, θ, P, w, er, o⟩, ?_⟩
    rintro m σ1 H1 ⟨ρ1, M1, θ1, P1, w1, er1, o1⟩
    cases m with
    | zero => exact o1.elim
    | succ m =>
      unfold loopW at o1
      refine ⟨ρ1, M1, θ1, P1, w1, er1, OutS.bind (R := RB) er1 o1 fun k M2 k' H2 θ2 P2 w2 s2 r2 er2 o2 => ?_⟩
      subst r2
      cases k' with
      | false => exact (if_neg Bool.false_ne_true).mpr (o2 _ _ _ _ w2 .refl er2)
      | true =>
        refine (if_pos rfl).mpr ⟨fun σ' H' => ∃ ρ M θ P, Wo c θ P H' M ∧ ER c θ P ρ σ' ∧ OutS c θ P H' E W (loopW t b m ρ M), fun σ' H' q => ⟨m, Nat.lt_succ_self m, q⟩, ρ1, M2, θ2, P2, w2, er2, ?_⟩
        rw [if_pos rfl] at o2
        cases qb : b ρ1 M2 with
        | nx ρ4 M4 => simp only [qb] at o2; exact fun σ' H4 θ' P'' w4 s4 er4 => ⟨ρ4, M4, θ', P'', w4, er4, OutS.base s4 o2⟩
        | ct ρ4 M4 => simp only [qb] at o2; exact fun σ' H4 θ' P'' w4 s4 er4 => ⟨ρ4, M4, θ', P'', w4, er4, OutS.base s4 o2⟩
        | bk ρ4 M4 => simp only [qb] at o2; exact o2
        | rt d M4 => simp only [qb] at o2; exact o2
        | err n fs ρ4 M4 => simp only [qb] at o2; exact o2
        | stuck => simp only [qb] at o2; exact o2
end
end Q

namespace Q
open PySem PySem.Spec PyProof.Rows L2

/-! ### comprehensions -/
def wipeE (ρ : Ev) : List Nat → Ev
  | [] => ρ
  | v :: vs => (wipeE ρ vs).set v none
theorem wipeE_len (ρ : Ev) : ∀ vs : List Nat, (wipeE ρ vs).length = ρ.length
  | [] => rfl
  | v :: vs => by simp [wipeE, wipeE_len ρ vs]
theorem wipeE_some {ρ : Ev} {i : Nat} {x : D} : ∀ {vs : List Nat}, (wipeE ρ vs)[i]? = some (some x) → ρ[i]? = some (some x) ∧ i ∉ vs
  | [], h => ⟨h, by simp⟩
  | v :: vs, h => by
    unfold wipeE at h
    by_cases q : i = v
    · subst q
      by_cases l : i < (wipeE ρ vs).length
      · rw [List.getElem?_set_self l] at h; cases h
      · rw [List.getElem?_eq_none (by simp; omega)] at h; cases h
    · rw [List.getElem?_set_ne (Ne.symm q)] at h
      obtain ⟨a, b⟩ := wipeE_some h
      exact ⟨a, by simp [q, b]⟩
theorem wipe_get (σ : L2.St) (j : Nat) : ∀ vs : List Nat, j ∉ vs → (wipe σ vs)[j]? = σ[j]?
  | [], _ => rfl
  | v :: vs, h => by
    unfold wipe
    rw [List.getElem?_set_ne (fun q => h (by simp [q])), wipe_get σ j vs fun m => h (List.mem_cons_of_mem _ m)]
theorem wipe_in (σ : L2.St) (j : Nat) : ∀ vs : List Nat, j ∈ vs → j < σ.length → (wipe σ vs)[j]? = some none
  | [], h, _ => by simp at h
  | v :: vs, h, l => by
    unfold wipe
    by_cases q : j = v
    · subst q; rw [List.getElem?_set_self (by rw [wipe_length]; exact l)]
    · rw [List.getElem?_set_ne (Ne.symm q)]
      exact wipe_in σ j vs (by simpa [q] using h) l
theorem wipe_same {σ σ' : L2.St} {vs : List Nat} (hl : σ'.length = σ.length) (h : ∀ j, j ∉ vs → σ'[j]? = σ[j]?) : wipe σ' vs = wipe σ vs := by
  apply List.ext_getElem?
  intro j
  by_cases m : j ∈ vs
  · by_cases l : j < σ.length
    · rw [wipe_in σ' j vs m (by rw [hl]; exact l), wipe_in σ j vs m l]
    · rw [List.getElem?_eq_none (by rw [wipe_length, hl]; omega), List.getElem?_eq_none (by rw [wipe_length]; omega)]
  · rw [wipe_get σ' j vs m, wipe_get σ j vs m, h j m]
theorem ER.wiped {c : Cl} {θ : List Addr} {P : Hp} {ρ : Ev} {σ : L2.St} (h : ER c θ P ρ σ) (vs : List Nat) : ER c θ P (wipeE ρ vs) (wipe σ vs) := ⟨by rw [wipeE_len, wipe_length, h.len], fun i d e => by
  obtain ⟨a, b⟩ := wipeE_some e
  obtain ⟨v, e1, r⟩ := h.at_ i d a
  exact ⟨v, by rw [wipe_get σ i vs b]; exact e1, r⟩⟩
/-- what may not raise -/
def calmly {α : Type} : Res α → Res α
  | .ok a M => .ok a M
  | _ => .stuck
abbrev W0 : WX := fun _ _ _ _ => False
theorem Out.calm {α β : Type} {c : Cl} {R : List Addr → Hp → Hp → α → β → Prop} {θ : List Addr} {P H : Hp} {Q : β → Hp → Prop} {Wx Wy : Value → Option Addr → Hp → Prop} {r : Res α} (h : Out c R θ P H Q Wx (calmly r)) : Out c R θ P H Q Wy r := by
  cases r with
  | ok a M => exact h
  | err n fs M => exact h.elim
  | stuck => exact h
def loopC (ρ : Ev) (bd : D → Ev → Option Ev) (t : Rn Bool) (e : Rn D) : List D → MS → Res (List D)
  | [], M => .ok [] M
  | d :: ds, M => match bd d ρ with
    | none => .stuck
    | some ρ1 => (calmly (t ρ1 M)).bind fun b M1 => if b = true then (calmly (e ρ1 M1)).bind fun y M2 => (loopC ρ bd t e ds M2).bind fun ys M3 => .ok (y :: ys) M3 else loopC ρ bd t e ds M1
def rTrue : Rn Bool := fun _ M => .ok true M
def rComp (it : Rn (List D)) (vs : List Nat) (bd : D → Ev → Option Ev) (t : Rn Bool) (e : Rn D) : Rn (List D) := fun ρ M => (it ρ M).bind fun ds M1 => rGuard (small ds.length) (loopC (wipeE ρ vs) bd t e ds M1)
/-- a list: lasting, or to be changed -/
def rLc (it : Rn (List D)) (vs : List Nat) (bd : D → Ev → Option Ev) (t : Rn Bool) (e : Rn D) : Rn D := fun ρ M => (rComp it vs bd t e ρ M).bind fun ys M1 => .ok (.lst ys) M1
def rLcM (it : Rn (List D)) (vs : List Nat) (bd : D → Ev → Option Ev) (t : Rn Bool) (e : Rn D) : Rn D := fun ρ M => (rComp it vs bd t e ρ M).bind fun ys M1 => .ok (.ref M1.length) (M1 ++ [.lst ys])
section
variable {X : Cx} {c : Cl} {W : WX}
theorem Wo.adopt {θ : List Addr} {P H : Hp} {M : MS} {p : Addr} {o : HO} (w : Wo c θ P H M) (h : H p = some o) (hP : P p = none) (hT : p ∉ θ) (hn : ∀ ps, o ≠ .tbl ps := by intro _ z; cases z) : Wo c θ (upd P p o) H M := by
  have ext : ∀ b u, P b = some u → upd P p o b = some u := fun b u e => by rw [upd_ne (fun z => by subst z; rw [hP] at e; cases e)]; exact e
  refine ⟨fun b u e => ?_, w.len, fun l a mo e1 e2 => ?_, fun l a mo e1 e2 n => ?_, w.inj, w.there, w.tabs, fun b ps e => ?_⟩
  · by_cases q : b = p
    · subst q; rw [upd_same] at e; cases e; exact h
    · rw [upd_ne q] at e; exact w.sub b u e
  · exact (w.cell l a mo e1 e2).mono (fun _ _ e => e) ext rfl
  · rw [upd_ne (fun z => hT (by rw [← z]; exact mem_of_get e1))]; exact w.off l a mo e1 e2 n
  · by_cases q : b = p
    · subst q; rw [upd_same] at e; exact hn ps (Option.some.inj e)
    · rw [upd_ne q] at e; exact w.ptab b ps e
theorem Wo.own {θ : List Addr} {P H : Hp} {M : MS} {p : Addr} {o : HO} {mo : MO} (w : Wo c θ P H M) (h : H p = some o) (hP : P p = none) (hT : p ∉ θ) (r : MR c (θ ++ [p]) P H p mo) : Wo c (θ ++ [p]) P H (M ++ [mo]) := by
  have pre : ∀ (l : Nat) (a : Addr), θ[l]? = some a → (θ ++ [p])[l]? = some a := fun l a e => get_append_some e
  refine ⟨w.sub, by simp [w.len], fun l a m e1 e2 => ?_, fun l a m e1 e2 n => ?_, fun l l' a e1 e2 => ?_, fun a m => ?_, w.tabs, w.ptab⟩
  · rcases get_snoc e1 with e1 | ⟨el, ea⟩
    · have hl := (List.getElem?_eq_some_iff.mp e1).1
      rw [List.getElem?_append_left (by rw [← w.len]; exact hl)] at e2
      exact (w.cell l a m e1 e2).mono pre (fun _ _ e => e) rfl
    · subst ea; subst el
      rw [w.len] at e2
      rw [get_last] at e2
      cases e2
      exact r
  · rcases get_snoc e1 with e1 | ⟨el, ea⟩
    · have hl := (List.getElem?_eq_some_iff.mp e1).1
      rw [List.getElem?_append_left (by rw [← w.len]; exact hl)] at e2
      exact w.off l a m e1 e2 n
    · subst ea; exact hP
  · rcases get_snoc e1 with e1 | ⟨el, ea⟩ <;> rcases get_snoc e2 with e2 | ⟨el', ea'⟩
    · exact w.inj l l' a e1 e2
    · subst ea'; exact absurd (mem_of_get e1) hT
    · subst ea; exact absurd (mem_of_get e2) hT
    · omega
  · rcases List.mem_append.mp m with m | m
    · exact w.there a m
    · have : a = p := by simpa using m
      subst this; rw [h]; simp
theorem Stp.off {θa θb : List Addr} {Pa Pb Ha Hb : Hp} {p : Addr} {o : HO} (st : Stp θa Pa Ha θb Pb Hb) (h1 : Ha p = some o) (h2 : p ∉ θa) (h3 : Pa p = none) (ho : ¬ Odd o := by rintro (⟨_, z⟩ | ⟨_, z⟩) <;> cases z) : p ∉ θb ∧ Pb p = none := by
  constructor
  · intro m
    rcases st.new p m with z | z
    · exact h2 z
    · rw [h1] at z; cases z
  · cases q : Pb p with
    | none => rfl
    | some u =>
      rcases st.pnew p u q with z | z | z | z
      · rw [h3] at z; cases z
      · exact absurd z h2
      · rw [h1] at z; cases z
      · exact absurd (z o h1) ho
/-- the loop's reading, for any wish of the made list at p -/
theorem lc_run {it : Rn (List D)} {vs : List Nat} {g : TG} {gs : List Nat} {bd : D → Ev → Option Ev} {t : Rn Bool} {e : Rn D} (ok : TgOk c g gs bd) (hsub : ∀ i ∈ gs, i ∈ vs) {σ : L2.St} {H : Hp} {Q : V → Hp → Prop} {Wx : Value → Option Addr → Hp → Prop}
    {ρ : Ev} {M : MS} {θ : List Addr} {P : Hp} (w : Wo c θ P H M) (er : ER c θ P ρ σ) {fin : List D → MS → Res D} (o : OutE c θ P H Q (fun cv dd H' => W cv dd σ H') ((rComp it vs bd t e ρ M).bind fin))
    (last : ∀ (ys : List D) (ws : List V) (θ1 θ2 : List Addr) (P1 P2 H1 H2 : Hp) (M2 : MS) (p : Addr), H1 p = none → H2 p = some (.lst ws) → P2 p = none → p ∉ θ2 → VRL c θ2 P2 ys ws → Wo c θ2 P2 H2 M2 → Stp θ1 P1 H1 θ2 P2 H2 → OutE c θ1 P1 H1 Q (fun cv dd H' => W cv dd σ H') (fin ys M2) → Q (.ref p) H2) :
    tLc (liftI c W it) g (liftT c W0 t) (liftE c W0 e) vs σ H Q := by
  refine ⟨ρ, M, θ, P, w, er, ?_⟩
  unfold rComp at o
  cases qi : it ρ M with
  | stuck => rw [qi] at o; exact o.elim
  | err n fs M1 => rw [qi] at o; exact o
  | ok ds M1 =>
    rw [qi] at o
    intro J H1 θ1 P1 w1 s1 src p hp
    by_cases hsm : small ds.length = true
    case neg =>
      have o' : OutE c θ P H Q (fun cv dd H' => W cv dd σ H') ((rGuard (small ds.length) (loopC (wipeE ρ vs) bd t e ds M1)).bind fin) := o
      unfold rGuard at o'
      rw [if_neg hsm] at o'
      exact o'.elim
    have o1 : OutE c θ1 P1 H1 Q (fun cv dd H' => W cv dd σ H') ((loopC (wipeE ρ vs) bd t e ds M1).bind fin) := by
      have o' : OutE c θ P H Q (fun cv dd H' => W cv dd σ H') ((rGuard (small ds.length) (loopC (wipeE ρ vs) bd t e ds M1)).bind fin) := o
      unfold rGuard at o'
      rw [if_pos hsm] at o'
      exact Out.base s1 o'
    have er1 := er.step s1
    obtain ⟨hpP, hpT⟩ := w1.fresh hp
    -- the new list is tracked, and nobody's
    have w1' : Wo c θ1 P1 (upd H1 p (.lst [])) M1 := by
      refine ⟨fun b u e => by rw [upd_ne (fun z => by subst z; rw [hpP] at e; cases e)]; exact w1.sub b u e, w1.len, fun l a mo e1 e2 => ?_, w1.off, w1.inj, fun a m => by rw [upd_ne (fun z => hpT (by rw [← z]; exact m))]; exact w1.there a m, w1.tabs.ext fun b u e => by rw [upd_ne (fun z => by subst z; rw [hp] at e; cases e)]; exact e, w1.ptab⟩
      have na : a ≠ p := fun z => hpT (by rw [← z]; exact mem_of_get e1)
      exact (w1.cell l a mo e1 e2).mono (fun _ _ e => e) (fun _ _ e => e) (upd_ne na)
    have s1' : Stp θ1 P1 H1 θ1 P1 (upd H1 p (.lst [])) := ⟨fun _ _ e => e, fun b u e _ _ => by rw [upd_ne (fun z => by subst z; rw [hp] at e; cases e)]; exact e, fun _ _ e => e, fun _ e => .inl e, fun _ _ e => .inl e, fun b n => by
      by_cases q : b = p
      · subst q; rw [upd_same]; simp
      · rw [upd_ne q]; exact n⟩
    refine ⟨fun i m H => m = ds.length - i ∧ i ≤ ds.length ∧ ∃ M θ P acc ws, Wo c θ P H M ∧ Stp θ1 P1 H1 θ P H ∧ H p = some (.lst ws) ∧ p ∉ θ ∧ P p = none ∧ VRL c θ P acc ws ∧ acc.length ≤ i ∧
      OutE c θ1 P1 H1 Q (fun cv dd H' => W cv dd σ H') ((loopC (wipeE ρ vs) bd t e (ds.drop i) M).bind fun ys M' => fin (acc ++ ys) M'), ⟨_, rfl, Nat.zero_le _, M1, θ1, P1, [], [], w1', s1', upd_same, hpT, hpP, rfl, Nat.le_refl _, by simpa using o1⟩, ?_⟩
    rintro i m H2 ⟨rfl, hi, M2, θ2, P2, acc, ws, w2, s2, hp2, hpT2, hpP2, ra, hacc, o2⟩
    have src2 := src.step s2
    obtain ⟨k1, k2⟩ := src2 i θ2 P2 H2 M2 w2 .refl
    rcases Nat.lt_or_ge i ds.length with hl | hl
    · have ge : ds[i]? = some ds[i] := List.getElem?_eq_getElem hl
      obtain ⟨g1, g2⟩ := k1 _ ge
      refine .inr ⟨g1, fun H' => ∃ M θ P acc ws, Wo c θ P H' M ∧ Stp θ1 P1 H1 θ P H' ∧ H' p = some (.lst ws) ∧ p ∉ θ ∧ P p = none ∧ VRL c θ P acc ws ∧ acc.length ≤ i + 1 ∧
        OutE c θ1 P1 H1 Q (fun cv dd H' => W cv dd σ H') ((loopC (wipeE ρ vs) bd t e (ds.drop (i + 1)) M).bind fun ys M' => fin (acc ++ ys) M'), fun H' q => ⟨ds.length - (i + 1), by omega, rfl, hl, q⟩, fun x H' y => ?_⟩
      obtain ⟨P3, w3, s3, rx⟩ := g2 x H' y
      rw [List.drop_eq_getElem_cons hl] at o2
      unfold loopC at o2
      have er3 : ER c θ2 P3 (wipeE ρ vs) (wipe σ vs) := ((er1.wiped vs).step s2).step s3
      cases qb : bd ds[i] (wipeE ρ vs) with
      | none => simp only [qb] at o2; exact o2.elim
      | some ρ3 =>
        simp only [qb] at o2
        refine ok.run θ2 P3 H' _ x (wipeE ρ vs) (wipe σ vs) ρ3 _ rx er3 w3.sub qb fun σ3 er4 l4 k4 => ⟨?_, ?_⟩
        · have q1 : wipe σ3 vs = wipe (wipe σ vs) vs := wipe_same l4 fun j hj => k4 j fun m => hj (hsub j m)
          rw [q1]
          exact wipe_same (wipe_length σ vs) fun j hj => wipe_get σ j vs hj
        · have hp3 : H' p = some (.lst ws) := s3.keep p _ hp2 hpT2 (fun _ z => by cases z)
          have hpP3 : P3 p = none := (s3.off hp2 hpT2 hpP2).2
          have s23 := s2.trans s3
          refine ⟨ρ3, M2, θ2, P3, w3, er4, ?_⟩
          cases qt : t ρ3 M2 with
          | stuck => rw [qt] at o2; exact o2.elim
          | err n fs M4 => rw [qt] at o2; exact o2.elim
          | ok b M4 =>
            rw [qt] at o2
            intro b' H4 θ4 P4 w4 s4 rb
            subst rb
            have hp4 : H4 p = some (.lst ws) := s4.keep p _ hp3 hpT2 (fun _ z => by cases z)
            obtain ⟨hpT4, hpP4⟩ := s4.off hp3 hpT2 hpP3
            cases b' with
            | false =>
              refine (if_neg Bool.false_ne_true).mpr ⟨M4, θ4, P4, acc, ws, w4, s23.trans s4, hp4, hpT4, hpP4, (ra.step s3).step s4, by omega, ?_⟩
              exact o2
            | true =>
              refine (if_pos rfl).mpr ⟨ρ3, M4, θ4, P4, w4, er4.step s4, ?_⟩
              cases qe : e ρ3 M4 with
              | stuck => simp only [calmly, Res.bind, qe] at o2; exact o2.elim
              | err n fs M5 => simp only [calmly, Res.bind, qe] at o2; exact o2.elim
              | ok y M5 =>
                intro v H5 θ5 P5 w5 s5 rv
                have hp5 : H5 p = some (.lst ws) := s5.keep p _ hp4 hpT4 (fun _ z => by cases z)
                obtain ⟨hpT5, hpP5⟩ := s5.off hp4 hpT4 hpP4
                refine ⟨ws, hp5, ?_, M5, θ5, P5, acc ++ [y], ws ++ [v], ?_, ?_, upd_same, hpT5, hpP5, VRL.append (((ra.step s3).step s4).step s5) (VRL.one rv), by simp; omega, ?_⟩
                · rw [ra.length]
                  have := small_line hsm
                  omega
                · refine ⟨fun b u z => by rw [upd_ne (fun q => by subst q; rw [hpP5] at z; cases z)]; exact w5.sub b u z, w5.len, fun l a mo e1 e2 => ?_, w5.off, w5.inj, fun a m => by rw [upd_ne (fun z => hpT5 (by rw [← z]; exact m))]; exact w5.there a m, tabs_keep w5.tabs fun b u e z => by
                    rw [upd_ne (fun w => by subst w; rw [hp5] at e; cases e; rcases z with ⟨ps, z⟩ | ⟨φ, z⟩ <;> cases z)]; exact e, w5.ptab⟩
                  have na : a ≠ p := fun z => hpT5 (by rw [← z]; exact mem_of_get e1)
                  exact (w5.cell l a mo e1 e2).mono (fun _ _ e => e) (fun _ _ e => e) (upd_ne na)
                · have sa := (s23.trans s4).trans s5
                  refine ⟨sa.pre, fun b u z n nt => ?_, sa.pext, sa.new, sa.pnew, fun b n => ?_⟩
                  · rw [upd_ne (fun q => by subst q; rw [hp] at z; cases z)]; exact sa.keep b u z n nt
                  · by_cases q : b = p
                    · subst q; rw [upd_same]; simp
                    · rw [upd_ne q]; exact sa.there b n
                · simp only [calmly, Res.bind, qe, if_pos] at o2
                  cases ql : loopC (wipeE ρ vs) bd t e (ds.drop (i + 1)) M5 with
                  | stuck => rw [ql] at o2; exact o2
                  | err n fs M6 => rw [ql] at o2; exact o2
                  | ok ys M6 => rw [ql] at o2; simpa using o2
    · refine .inl ⟨k2 hl, ?_⟩
      rw [List.drop_eq_nil_of_le hl] at o2
      exact last acc ws θ1 θ2 P1 P2 H1 H2 M2 p hp hp2 hpP2 hpT2 ra w2 s2 (by simpa [loopC] using o2)
theorem lc_keep {it : Rn (List D)} {vs : List Nat} {g : TG} {gs : List Nat} {bd : D → Ev → Option Ev} {t : Rn Bool} {e : Rn D} (ok : TgOk c g gs bd) (hsub : ∀ i ∈ gs, i ∈ vs) {σ : L2.St} {H : Hp} {Q : V → Hp → Prop} (h : liftE c W (rLc it vs bd t e) σ H Q) : tLc (liftI c W it) g (liftT c W0 t) (liftE c W0 e) vs σ H Q := by
  obtain ⟨ρ, M, θ, P, w, er, o⟩ := h
  refine lc_run (Wx := fun _ _ _ => True) ok hsub w er o fun ys ws θ1 θ2 P1 P2 H1 H2 M2 p hp h2 hP hT r w2 s2 o2 => ?_
  have w3 := w2.adopt h2 hP hT
  have ext : ∀ b u, P2 b = some u → upd P2 p (.lst ws) b = some u := fun b u e => by rw [upd_ne (fun z => by subst z; rw [hP] at e; cases e)]; exact e
  refine o2 (.ref p) H2 θ2 (upd P2 p (.lst ws)) w3 ⟨s2.pre, s2.keep, fun b u e => ext b u (s2.pext b u e), s2.new, fun b u e => ?_, s2.there⟩ ⟨p, ws, rfl, upd_same, VRL.mono (fun _ _ e => e) ext r⟩
  by_cases q : b = p
  · subst q; exact .inr (.inr (.inl hp))
  · rw [upd_ne q] at e; exact s2.pnew b u e
theorem lc_keepM {it : Rn (List D)} {vs : List Nat} {g : TG} {gs : List Nat} {bd : D → Ev → Option Ev} {t : Rn Bool} {e : Rn D} (ok : TgOk c g gs bd) (hsub : ∀ i ∈ gs, i ∈ vs) {σ : L2.St} {H : Hp} {Q : V → Hp → Prop} (h : liftE c W (rLcM it vs bd t e) σ H Q) : tLc (liftI c W it) g (liftT c W0 t) (liftE c W0 e) vs σ H Q := by
  obtain ⟨ρ, M, θ, P, w, er, o⟩ := h
  refine lc_run (Wx := fun _ _ _ => True) ok hsub w er o fun ys ws θ1 θ2 P1 P2 H1 H2 M2 p hp h2 hP hT r w2 s2 o2 => ?_
  have pre : ∀ (l : Nat) (a : Addr), θ2[l]? = some a → (θ2 ++ [p])[l]? = some a := fun l a e => get_append_some e
  have w3 := w2.own h2 hP hT (mo := .lst ys) ⟨ws, h2, VRL.mono pre (fun _ _ e => e) r⟩
  refine o2 (.ref p) H2 (θ2 ++ [p]) P2 w3 ⟨fun l a e => pre l a (s2.pre l a e), s2.keep, s2.pext, fun b m => ?_, s2.pnew, s2.there⟩ ⟨p, by rw [← w2.len]; exact get_last, rfl⟩
  rcases List.mem_append.mp m with m | m
  · exact s2.new b m
  · have : b = p := by simpa using m
    subst this; exact .inr hp
end
end Q

namespace Q
open PySem PySem.Spec PyProof.Rows L2

/-! ### what data refers to -/
mutual
def below (n : Nat) : D → Prop
  | .ref l => l < n
  | .tup l => belowL n l
  | .lst l => belowL n l
  | .scr l => belowL n l
  | .obj _ fs => belowF n fs
  | .exn _ fs => belowF n fs
  | .lam _ l => belowL n l
  | .dic _ kvs => belowK n kvs
  | _ => True
def belowL (n : Nat) : List D → Prop
  | [] => True
  | d :: ds => below n d ∧ belowL n ds
def belowF (n : Nat) : List (Str × D) → Prop
  | [] => True
  | (_, d) :: ds => below n d ∧ belowF n ds
def belowK (n : Nat) : List (List Key × D) → Prop
  | [] => True
  | (_, d) :: ds => below n d ∧ belowK n ds
end
section
variable {c : Cl} {θ θ' : List Addr} {P P' : Hp}
mutual
theorem VR.below : ∀ {d : D} {v : V}, VR c θ P d v → Q.below θ.length d
  | .non, _, _ => trivial
  | .bl _, _, _ => trivial
  | .int _, _, _ => trivial
  | .str _, _, _ => trivial
  | .ty _, _, _ => trivial
  | .cls _, _, _ => trivial
  | .ref _, _, ⟨a, e, _⟩ => (List.getElem?_eq_some_iff.mp e).1
  | .tup _, _, ⟨_, _, _, _, q⟩ => VRL.below q
  | .lst _, _, ⟨_, _, _, _, q⟩ => VRL.below q
  | .scr _, _, ⟨_, _, _, _, q⟩ => VRL.below q
  | .obj _ _, _, ⟨_, _, _, _, _, _, _, q⟩ => VRF.below q
  | .exn _ _, _, ⟨_, _, _, _, _, _, _, _, _, _, q⟩ => VRF.below q
  | .lam _ _, _, ⟨_, _, _, _, _, _, _, _, _, _, q⟩ => VRL.below q
  | .lamI _, _, _ => trivial
  | .dic _ _, _, ⟨_, _, _, _, q⟩ => VRM.below q
theorem VRL.below : ∀ {d : List D} {v : List V}, VRL c θ P d v → belowL θ.length d
  | [], _, _ => trivial
  | _ :: _, _, ⟨_, _, _, a, b⟩ => ⟨VR.below a, VRL.below b⟩
theorem VRF.below : ∀ {d : List (Str × D)} {v : List (Str × V)}, VRF c θ P d v → belowF θ.length d
  | [], _, _ => trivial
  | (_, _) :: _, _, ⟨_, _, _, a, b⟩ => ⟨VR.below a, VRF.below b⟩
theorem VRM.below : ∀ {d : List (List Key × D)} {v : List (List Key × V)}, VRM c θ P d v → belowK θ.length d
  | [], _, _ => trivial
  | (_, _) :: _, _, ⟨_, _, _, a, b⟩ => ⟨VR.below a, VRM.below b⟩
end
variable {n : Nat} (hs : ∀ l : Nat, l < n → θ[l]? = θ'[l]?)
include hs
mutual
theorem VR.cut : ∀ {d : D} {v : V}, VR c θ' P d v → Q.below n d → VR c θ P d v
  | .non, _, h, _ => h
  | .bl _, _, h, _ => h
  | .int _, _, h, _ => h
  | .str _, _, h, _ => h
  | .ty _, _, h, _ => h
  | .cls _, _, h, _ => h
  | .ref _, _, ⟨a, e, r⟩, b => ⟨a, by rw [hs _ b]; exact e, r⟩
  | .tup _, _, ⟨a, vs, e, r, q⟩, b => ⟨a, vs, e, r, VRL.cut q b⟩
  | .lst _, _, ⟨a, vs, e, r, q⟩, b => ⟨a, vs, e, r, VRL.cut q b⟩
  | .scr _, _, ⟨a, vs, e, r, q⟩, b => ⟨a, vs, e, r, VRL.cut q b⟩
  | .obj _ _, _, ⟨a, C, dx, fv, e, k, r, q⟩, b => ⟨a, C, dx, fv, e, k, r, VRF.cut q b⟩
  | .exn _ _, _, ⟨a, oe, C, dx, fv, e, k, x, r, r', q⟩, b => ⟨a, oe, C, dx, fv, e, k, x, r, r', VRF.cut q b⟩
  | .lam _ _, _, ⟨f, t, c', cl, ws, e, k, x, y, C, q⟩, b => ⟨f, t, c', cl, ws, e, k, x, y, C, VRL.cut q b⟩
  | .lamI _, _, h, _ => h
  | .dic _ _, _, ⟨a, kv, e, r, q⟩, b => ⟨a, kv, e, r, VRM.cut q b⟩
theorem VRL.cut : ∀ {d : List D} {v : List V}, VRL c θ' P d v → belowL n d → VRL c θ P d v
  | [], _, h, _ => h
  | _ :: _, _, ⟨v, r, e, a, b⟩, k => ⟨v, r, e, VR.cut a k.1, VRL.cut b k.2⟩
theorem VRF.cut : ∀ {d : List (Str × D)} {v : List (Str × V)}, VRF c θ' P d v → belowF n d → VRF c θ P d v
  | [], _, h, _ => h
  | (_, _) :: _, _, ⟨v, r, e, a, b⟩, k => ⟨v, r, e, VR.cut a k.1, VRF.cut b k.2⟩
theorem VRM.cut : ∀ {d : List (List Key × D)} {v : List (List Key × V)}, VRM c θ' P d v → belowK n d → VRM c θ P d v
  | [], _, h, _ => h
  | (_, _) :: _, _, ⟨v, r, e, a, b⟩, k => ⟨v, r, e, VR.cut a k.1, VRM.cut b k.2⟩
end
end
def belowM (n : Nat) : MO → Prop
  | .lst ds => belowL n ds
  | .inst _ fs => belowF n fs
  | .dic _ kvs => belowK n kvs
  | .dead => True
/-- what a def made for itself may be forgotten -/
structure Tr (M M' : MS) : Prop where
  old : ∀ (l : Nat) (mo : MO), l < M.length → M'[l]? = some mo → M[l]? = some mo ∨ belowM M.length mo
open Classical in
noncomputable def trim (M : MS) : Res D → Res D
  | .ok d M' => if M'.length = M.length then .ok d M' else if Tr M M' ∧ below M.length d then .ok d (M'.take M.length) else .stuck
  | .err n fs M' => if M'.length = M.length then .err n fs M' else if Tr M M' ∧ belowF M.length fs then .err n fs (M'.take M.length) else .stuck
  | .stuck => .stuck
section
variable {c : Cl} {θ θ' : List Addr} {P P' H H' : Hp} {M M' : MS}
theorem Stp.same (w : Wo c θ P H M) (w' : Wo c θ' P' H' M') (s : Stp θ P H θ' P' H') : ∀ l : Nat, l < M.length → θ[l]? = θ'[l]? := fun l hl => by
  have e : θ[l]? = some (θ[l]'(by rw [w.len]; exact hl)) := List.getElem?_eq_getElem _
  rw [e, s.pre l _ e]
theorem Wo.cut (w : Wo c θ P H M) (w' : Wo c θ' P' H' M') (s : Stp θ P H θ' P' H') (t : Tr M M') : Wo c θ P' H' (M'.take M.length) ∧ Stp θ P H θ P' H' := by
  have hs := Stp.same w w' s
  have le : M.length ≤ M'.length := by
    rw [← w.len, ← w'.len]
    by_cases z : θ.length = 0
    · omega
    · have e : θ[θ.length - 1]? = some (θ[θ.length - 1]'(by omega)) := List.getElem?_eq_getElem _
      have := (List.getElem?_eq_some_iff.mp (s.pre _ _ e)).1
      omega
  refine ⟨⟨w'.sub, by simp [w.len]; omega, fun l a mo e1 e2 => ?_, fun l a mo e1 e2 n => ?_, w.inj, fun a m => s.there a (w.there a m), w'.tabs, w'.ptab⟩, ⟨fun _ _ e => e, s.keep, s.pext, fun _ m => .inl m, s.pnew, s.there⟩⟩
  · have hl : l < M.length := by rw [← w.len]; exact (List.getElem?_eq_some_iff.mp e1).1
    rw [List.getElem?_take_of_lt hl] at e2
    have k := w'.cell l a mo (s.pre l a e1) e2
    have bl : belowM M.length mo := by
      rcases t.old l mo hl e2 with z | z
      · have k0 := w.cell l a mo e1 z
        rw [← w.len]
        cases mo with
        | lst ds => obtain ⟨_, _, r⟩ := k0; exact r.below
        | inst n fs => obtain ⟨_, _, _, _, _, r⟩ := k0; exact r.below
        | dic t kvs => obtain ⟨_, _, r⟩ := k0; exact r.below
        | dead => trivial
      · exact z
    cases mo with
    | lst ds => obtain ⟨vs, k1, k2⟩ := k; exact ⟨vs, k1, VRL.cut hs k2 bl⟩
    | inst n fs => obtain ⟨C, dx, fv, k0, k1, k2⟩ := k; exact ⟨C, dx, fv, k0, k1, VRF.cut hs k2 bl⟩
    | dic t kvs => obtain ⟨kv, k1, k2⟩ := k; exact ⟨kv, k1, VRM.cut hs k2 bl⟩
    | dead => exact k
  · have hl : l < M.length := by rw [← w.len]; exact (List.getElem?_eq_some_iff.mp e1).1
    rw [List.getElem?_take_of_lt hl] at e2
    exact w'.off l a mo (s.pre l a e1) e2 n
theorem XR.cut {n : Nat} (hs : ∀ l : Nat, l < n → θ[l]? = θ'[l]?) {m : Str} {fs : List (Str × D)} {cv : Value} {dd : Option Addr} (h : XR c θ' P' H' m fs cv dd) (b : belowF n fs) : XR c θ P' H' m fs cv dd := by
  obtain ⟨C, d, fv, h1, h2, h3, h4, h5⟩ := h
  exact ⟨C, d, fv, h1, h2, h3, h4, VRF.cut hs h5 b⟩
theorem Out.trim {Q : V → Hp → Prop} {Wx : Value → Option Addr → Hp → Prop} {r : Res D} (w : Wo c θ P H M) (o : OutE c θ P H Q Wx (_root_.Q.trim M r)) : OutE c θ P H Q Wx r := by
  cases r with
  | stuck => exact o
  | ok d M' =>
    intro v H' θ' P' w' s r
    by_cases h1 : M'.length = M.length
    · have e : _root_.Q.trim M (.ok d M') = .ok d M' := if_pos h1
      rw [e] at o
      exact o v H' θ' P' w' s r
    · by_cases h : Tr M M' ∧ _root_.Q.below M.length d
      · have e : _root_.Q.trim M (.ok d M') = .ok d (M'.take M.length) := (if_neg h1).trans (if_pos h)
        rw [e] at o
        obtain ⟨w2, s2⟩ := Wo.cut w w' s h.1
        exact o v H' θ P' w2 s2 (VR.cut (Stp.same w w' s) r h.2)
      · have e : _root_.Q.trim M (.ok d M') = .stuck := (if_neg h1).trans (if_neg h)
        rw [e] at o
        exact o.elim
  | err n fs M' =>
    intro cv dd H' θ' P' w' s r
    by_cases h1 : M'.length = M.length
    · have e : _root_.Q.trim M (.err n fs M') = .err n fs M' := if_pos h1
      rw [e] at o
      exact o cv dd H' θ' P' w' s r
    · by_cases h : Tr M M' ∧ belowF M.length fs
      · have e : _root_.Q.trim M (.err n fs M') = .err n fs (M'.take M.length) := (if_neg h1).trans (if_pos h)
        rw [e] at o
        obtain ⟨w2, s2⟩ := Wo.cut w w' s h.1
        exact o cv dd H' θ P' w2 s2 (XR.cut (Stp.same w w' s) r h.2)
      · have e : _root_.Q.trim M (.err n fs M') = .stuck := (if_neg h1).trans (if_neg h)
        rw [e] at o
        exact o.elim
/-- an object of no further interest laid -/
theorem Wo.junk (w : Wo c θ P H M) {p : Addr} {o : HO} (h : H p = none) : Wo c θ P (upd H p o) M ∧ Stp θ P H θ P (upd H p o) := by
  obtain ⟨hP, hT⟩ := w.fresh h
  refine ⟨⟨fun b u e => by rw [upd_ne (fun z => by subst z; rw [hP] at e; cases e)]; exact w.sub b u e, w.len, fun l a mo e1 e2 => ?_, w.off, w.inj, fun a m => by rw [upd_ne (fun z => hT (by rw [← z]; exact m))]; exact w.there a m, w.tabs.ext fun b u e => by rw [upd_ne (fun z => by subst z; rw [h] at e; cases e)]; exact e, w.ptab⟩, ⟨fun _ _ e => e, fun b u e _ _ => ?_, fun _ _ e => e, fun _ e => .inl e, fun _ _ e => .inl e, fun b n => ?_⟩⟩
  · have na : a ≠ p := fun z => hT (by rw [← z]; exact mem_of_get e1)
    exact (w.cell l a mo e1 e2).mono (fun _ _ e => e) (fun _ _ e => e) (upd_ne na)
  · rw [upd_ne (fun z => by subst z; rw [h] at e; cases e)]; exact e
  · by_cases q : b = p
    · subst q; rw [upd_same]; simp
    · rw [upd_ne q]; exact n
/-- a changeable object becomes a lasting one -/
theorem Wo.freeze (w : Wo c θ P H M) {l : Nat} {a : Addr} {mo : MO} {o : HO} (hl : θ[l]? = some a) (hm : M[l]? = some mo) (hd : mo ≠ .dead) (ho : H a = some o) : Wo c θ (upd P a o) H (M.set l .dead) ∧ Stp θ P H θ (upd P a o) H := by
  have hP := w.off l a mo hl hm hd
  have hlt : l < M.length := (List.getElem?_eq_some_iff.mp hm).1
  have ext : ∀ b u, P b = some u → upd P a o b = some u := fun b u e => by rw [upd_ne (fun z => by subst z; rw [hP] at e; cases e)]; exact e
  obtain ⟨oo, hoo, hk⟩ := (w.cell l a mo hl hm).kind
  refine ⟨⟨fun b u e => ?_, by simp [w.len], fun k b m e1 e2 => ?_, fun k b m e1 e2 n => ?_, w.inj, w.there, w.tabs, fun b ps e => ?_⟩, ⟨fun _ _ e => e, fun _ _ e _ _ => e, ext, fun _ e => .inl e, fun b u e => ?_, fun _ n => n⟩⟩
  · by_cases q : b = a
    · subst q; rw [upd_same] at e; cases e; exact ho
    · rw [upd_ne q] at e; exact w.sub b u e
  · by_cases q : k = l
    · subst q; rw [List.getElem?_set_self hlt] at e2; cases e2; rw [hl] at e1; cases e1; exact ⟨oo, hoo, hk⟩
    · rw [List.getElem?_set_ne (Ne.symm q)] at e2
      exact (w.cell k b m e1 e2).mono (fun _ _ e => e) ext rfl
  · by_cases q : k = l
    · subst q; rw [List.getElem?_set_self hlt] at e2; cases e2; exact absurd rfl n
    · rw [List.getElem?_set_ne (Ne.symm q)] at e2
      rw [upd_ne (fun z => q (w.inj k l a (by rw [← z]; exact e1) hl))]
      exact w.off k b m e1 e2 n
  · by_cases q : b = a
    · subst q; rw [upd_same] at e; rw [hoo] at ho; cases ho; exact hk (.inr ⟨ps, Option.some.inj e⟩)
    · rw [upd_ne q] at e; exact w.ptab b ps e
  · by_cases q : b = a
    · subst q; exact .inr (.inl (mem_of_get hl))
    · rw [upd_ne q] at e; exact .inl e
end
/-- freezing: a changeable list or instance, as lasting data -/
def frz (d : D) (M : MS) : Res D := match d with
  | .ref l => match M[l]? with
    | some (.lst ds) => .ok (.lst ds) (M.set l .dead)
    | some (.inst n fs) => .ok (.obj n fs) (M.set l .dead)
    | some (.dic t kvs) => .ok (.dic t kvs) (M.set l .dead)
    | _ => .stuck
  | d => .ok d M
def rFrz (a : Rn D) : Rn D := fun ρ M => (a ρ M).bind frz
section
variable {X : Cx} {c : Cl} {W : WX}
theorem frz_now {θ : List Addr} {P H : Hp} {M : MS} {d : D} {v : V} {Q : V → Hp → Prop} {Wx : Value → Option Addr → Hp → Prop} (w : Wo c θ P H M) (r : VR c θ P d v) (o : OutE c θ P H Q Wx (frz d M)) : Q v H := by
  unfold frz at o
  split at o
  · rename_i l
    obtain ⟨a, e, rfl⟩ := r
    split at o
    · rename_i ds q
      obtain ⟨vs, k1, k2⟩ := w.cell l a _ e q
      obtain ⟨w', s'⟩ := w.freeze e q (by simp) k1
      exact o _ _ _ _ w' s' ⟨a, vs, rfl, upd_same, k2.step s'⟩
    · rename_i n fs q
      obtain ⟨C, dx, fv, k0, k1, k2⟩ := w.cell l a _ e q
      obtain ⟨w', s'⟩ := w.freeze e q (by simp) k1
      exact o _ _ _ _ w' s' ⟨a, C, dx, fv, rfl, k0, upd_same, VRF.mono s'.pre s'.pext k2⟩
    · rename_i t kvs q
      obtain ⟨kv, k1, k2⟩ := w.cell l a _ e q
      obtain ⟨w', s'⟩ := w.freeze e q (by simp) k1
      exact o _ _ _ _ w' s' ⟨a, kv, rfl, upd_same, VRM.mono s'.pre s'.pext k2⟩
    · exact o.elim
  · exact Out.now w o r
theorem s_frz {e : Expr} {a : Rn D} (h : PE X e (liftE c W a)) : PE X e (liftE c W (rFrz a)) :=
  PE.imp h fun σ H Q ⟨ρ, M, θ, P, w, er, o⟩ => ⟨ρ, M, θ, P, w, er, Out.bind (R := RV c) o fun d M1 v H1 θ1 P1 w1 s1 r1 o1 => frz_now w1 r1 o1⟩

/-! ### where one stands -/
structure Md (X : Cx) (c : Cl) (W : WX) (E : XK) : Prop where
  k : c.K = X.K
  calm : X.calm = true
  tk : Takes X W
  we : ∀ cls d σ H, W cls d σ H → E cls d H
  ew : ∀ cls d σ H, E cls d H → W cls d σ H
abbrev E0 : XK := fun _ _ _ => False
theorem Md.pass {E : XK} (m : Md X c W E) : Passes (L2.CX X.prog X.w) X E := passes_call m.tk m.ew
theorem no_takes {X : Cx} : Takes X W0 := fun _ _ x => by
  obtain ⟨_, _, _, _, _, _, _, _, _, _, _, _, _, _, _, _, w⟩ := x
  exact w.elim
theorem Md.blk {E : XK} (m : Md X c W E) {s : Shared} {H : Hp} {scope : Scope} {cenv : Env} {fp : List Addr} : Md (X.blk s H scope cenv fp) c W0 E0 := ⟨m.k, m.calm, no_takes, fun _ _ _ _ h => h, fun _ _ _ _ h => h⟩
theorem md_body {E : XK} {P : Program} {w : World} {mg : Str → Option Value} {base : Heap} {N : List Str} {qual : Str} {scope : Scope} {f : Addr} {cd : Value} {A : Around} {outer : List Env} {s : Shared} {H : Hp} :
    Md (cxOf (L2.CX P w) P w c.K mg base N qual scope f cd A outer s H E) c (fun cls d _ H => E cls d H) E := ⟨rfl, rfl, takes_of rfl rfl rfl rfl, fun _ _ _ _ h => h, fun _ _ _ _ h => h⟩

/-! ### defs -/
abbrev Fn := List D → MS → Res D
def spF (c : Cl) (n : Nat) (run : Fn) : Sp := fun vs H Q E => ∃ ds M θ P, Wo c θ P H M ∧ VRL c θ P ds vs ∧ ds.length = n ∧ OutE c θ P H Q (fun cv dd H' => E cv dd H') (run ds M)
def endF : SR → Res D
  | .rt d M => .ok d M
  | .nx _ M => .ok .non M
  | .err n fs _ M => .err n fs M
  | _ => .stuck
/-- the def with k slots: what it changes of its own is forgotten -/
noncomputable def fn (k : Nat) (body : Sn) : Fn := fun ds M => trim M (endF (body (ds.map some ++ List.replicate (k - ds.length) none) M))
/-- .. what it made stays -/
def fnM (k : Nat) (body : Sn) : Fn := fun ds M => endF (body (ds.map some ++ List.replicate (k - ds.length) none) M)
theorem er_start {θ : List Addr} {P : Hp} {ds : List D} {vs : List V} {N : List Str} (r : VRL c θ P ds vs) : ER c θ P (ds.map some ++ List.replicate (N.length - ds.length) none) (L2.start N vs) := by
  have hl := r.length
  unfold L2.start
  refine ⟨by simp [hl], fun i d e => ?_⟩
  by_cases q : i < ds.length
  · rw [List.getElem?_append_left (by simpa using q), List.getElem?_map] at e
    cases z : ds[i]? with
    | none => rw [z] at e; cases e
    | some x =>
      rw [z] at e
      cases e
      obtain ⟨v, e1, rv⟩ := r.get z
      exact ⟨v, by rw [List.getElem?_append_left (by simp [hl, q]), List.getElem?_map, e1]; rfl, rv⟩
  · rw [List.getElem?_append_right (by simpa using q), List.getElem?_replicate] at e
    split at e <;> cases e
theorem body_run {body : List Stmt} {N : List Str} {run : Sn} {E : XK} {Q : VK} {vs : List V} {H : Hp} {ds : List D} {M : MS} {θ : List Addr} {P : Hp} (w : Wo c θ P H M) (r : VRL c θ P ds vs)
    (o : OutE c θ P H Q (fun cv dd H' => E cv dd H') (endF (run (ds.map some ++ List.replicate (N.length - ds.length) none) M))) :
    liftS c (fun cls d _ H => E cls d H) run { nx := fun _ H' => Q .non H', rt := Q } (L2.start N vs) H := by
  refine ⟨_, M, θ, P, w, er_start r, ?_⟩
  cases q : run (ds.map some ++ List.replicate (N.length - ds.length) none) M with
  | nx ρ M' => rw [q] at o; exact fun σ' H' θ' P' w' s' _ => o .non H' θ' P' w' s' rfl
  | rt d M' => rw [q] at o; exact o
  | err n fs ρ M' => rw [q] at o; exact fun cv dd σ' H' θ' P' w' s' _ x => o cv dd H' θ' P' w' s' x
  | bk ρ M' => rw [q] at o; exact o.elim
  | ct ρ M' => rw [q] at o; exact o.elim
  | stuck => rw [q] at o; exact o.elim
section
variable {P : Program} {w : World} {mg : Str → Option Value} {base : Heap} {x qual : Str} {params : Arguments} {body : List Stmt} {scope : Scope} {dvs : List V} {kws : List (Str × V)} {f : Addr} {fd : FuncData} {N ps : List Str} {k n : Nat} {run : Sn}
theorem fn_ok (F : FunD c.K x qual params body scope dvs kws f fd) (S : FnScope N ps scope) (hn : ps.length = n)
    (hb : ∀ (cdv : Value) (A : Around) (outer : List Env) (s : Shared) (H : Hp) (E : XK), Room k (A.deeper (envOfC qual scope s.heap.objs.size f cdv)) → PSs (cxOf (L2.CX P w) P w c.K mg base N qual scope f cdv A outer s H E) body (liftS c (fun cls d _ H => E cls d H) run)) :
    FnOk P w c.K mg base (L2.CX P w) (k + 1) f fd ps (spF c n (fn N.length run)) := by
  refine F.ok S (fun vs H Q E h => ?_) (fun cdv A outer s H vs Q E hr h => ⟨_, hb cdv A outer s H E hr, ?_⟩)
  · obtain ⟨ds, M, θ, P, w, r, e, _⟩ := h
    rw [r.length, e, hn]
  · obtain ⟨ds, M, θ, P, w, r, e, o⟩ := h
    exact body_run (body := body) w r (Out.trim w o)
theorem fnM_ok (F : FunD c.K x qual params body scope dvs kws f fd) (S : FnScope N ps scope) (hn : ps.length = n)
    (hb : ∀ (cdv : Value) (A : Around) (outer : List Env) (s : Shared) (H : Hp) (E : XK), Room k (A.deeper (envOfC qual scope s.heap.objs.size f cdv)) → PSs (cxOf (L2.CX P w) P w c.K mg base N qual scope f cdv A outer s H E) body (liftS c (fun cls d _ H => E cls d H) run)) :
    FnOk P w c.K mg base (L2.CX P w) (k + 1) f fd ps (spF c n (fnM N.length run)) := by
  refine F.ok S (fun vs H Q E h => ?_) (fun cdv A outer s H vs Q E hr h => ⟨_, hb cdv A outer s H E hr, ?_⟩)
  · obtain ⟨ds, M, θ, P, w, r, e, _⟩ := h
    rw [r.length, e, hn]
  · obtain ⟨ds, M, θ, P, w, r, e, o⟩ := h
    exact body_run (body := body) w r o
end
/-! ### calls -/
/-- the promise of a def, of a call with values that stand -/
theorem sp_now {θ : List Addr} {P H : Hp} {M : MS} {ds : List D} {vs : List V} {Q : VK} {E : XK} {σ : L2.St} {n : Nat} {run : Fn} (we : ∀ cls d σ H, W cls d σ H → E cls d H) (w : Wo c θ P H M) (r : VRL c θ P ds vs) (hn : ds.length = n)
    (o : OutE c θ P H Q (fun cv dd H' => W cv dd σ H') (run ds M)) : spF c n run vs H Q E := by
  refine ⟨ds, M, θ, P, w, r, hn, ?_⟩
  cases q : run ds M with
  | ok d M' => rw [q] at o; exact o
  | err m fs M' => rw [q] at o; exact fun cv dd H' θ' P' w' s' x => we _ _ _ _ (o cv dd H' θ' P' w' s' x)
  | stuck => rw [q] at o; exact o
/-- a call: n values, the defaults es behind them -/
def rCall (n : Nat) (run : Fn) (es : List D) (a : Rn (List D)) : Rn D := fun ρ M => (a ρ M).bind fun ds M1 => rGuard (decide ((ds ++ es).length = n)) (run (ds ++ es) M1)
theorem call_read {E : XK} (m : Md X c W E) {n : Nat} {run : Fn} {es : List D} {dvs : List V} (hd : ∀ θ P, VRL c θ P es dvs) {a : Rn (List D)} {σ : L2.St} {H : Hp} {Q : VK} (h : liftE c W (rCall n run es a) σ H Q) : tCall (spF c n run) dvs E (liftA c W a) σ H Q := by
  obtain ⟨ρ, M, θ, P, w, er, o⟩ := h
  exact ⟨ρ, M, θ, P, w, er, Out.bind (R := RL c) o fun ds M1 vs H1 θ1 P1 w1 s1 r1 o1 => by
    obtain ⟨g, o1⟩ := Out.guard (R := RV c) o1
    exact sp_now m.we w1 (r1.append (hd θ1 P1)) (of_decide_eq_true g) o1⟩
end
end Q

set_option maxHeartbeats 400000
namespace Q
open PySem PySem.Spec PyProof.Rows L2

/-! ### reading a list, a tuple -/
def lstOf (d : D) (M : MS) : Option (List D) := match d with
  | .lst ds => some ds
  | .scr ds => some ds
  | .ref l => match M[l]? with
    | some (.lst ds) => some ds
    | _ => none
  | _ => none
section
variable {c : Cl} {θ : List Addr} {P H : Hp} {M : MS}
theorem lst_read (w : Wo c θ P H M) {d : D} {v : V} {ds : List D} (r : VR c θ P d v) (h : lstOf d M = some ds) : ∃ a vs, v = .ref a ∧ SqL c.K H a vs ∧ VRL c θ P ds vs := by
  cases d with
  | lst l => cases h; obtain ⟨a, vs, e, k, q⟩ := r; exact ⟨a, vs, e, .inl (.inl (w.sub _ _ k)), q⟩
  | scr l => cases h; obtain ⟨a, vs, e, k, q⟩ := r; exact ⟨a, vs, e, sqL_mono w.sub k, q⟩
  | ref l =>
    obtain ⟨a, e, rfl⟩ := r
    unfold lstOf at h
    cases q : M[l]? with
    | none => simp only [q] at h; cases h
    | some mo =>
      cases mo with
      | lst l' =>
        simp only [q] at h
        cases h
        obtain ⟨vs, k1, k2⟩ := w.cell l a _ e q
        exact ⟨a, vs, rfl, .inl (.inl k1), k2⟩
      | inst n fs => simp only [q] at h; cases h
      | dic t kvs => simp only [q] at h; cases h
      | dead => simp only [q] at h; cases h
  | _ => cases h
theorem tup_read (w : Wo c θ P H M) {v : V} {ds : List D} (r : VR c θ P (.tup ds) v) : ∃ a vs, v = .ref a ∧ SqT c.K H a vs ∧ VRL c θ P ds vs := by
  obtain ⟨a, vs, e, k, q⟩ := r
  exact ⟨a, vs, e, sqT_mono w.sub k, q⟩
/-- a list that may be joined with another one -/
def ownL (d : D) (M : MS) : Option (List D) := match d with
  | .scr _ => none
  | d => lstOf d M
theorem own_read (w : Wo c θ P H M) {d : D} {v : V} {ds : List D} (r : VR c θ P d v) (h : ownL d M = some ds) : ∃ a vs, v = .ref a ∧ H a = some (.lst vs) ∧ VRL c θ P ds vs := by
  cases d with
  | lst l => cases h; obtain ⟨a, vs, e, k, q⟩ := r; exact ⟨a, vs, e, w.sub _ _ k, q⟩
  | ref l =>
    obtain ⟨a, e, rfl⟩ := r
    unfold ownL lstOf at h
    cases q : M[l]? with
    | none => simp only [q] at h; cases h
    | some mo =>
      cases mo with
      | lst l' =>
        simp only [q] at h
        cases h
        obtain ⟨vs, k1, k2⟩ := w.cell l a _ e q
        exact ⟨a, vs, rfl, k1, k2⟩
      | inst n fs => simp only [q] at h; cases h
      | dic t kvs => simp only [q] at h; cases h
      | dead => simp only [q] at h; cases h
  | _ => cases h
end

/-! ### operators -/
def opAdd (d e : D) (M : MS) : Res D := match d, e with
  | .int i, .int j => .ok (.int (i + j)) M
  | .str a, .str b => rGuard (small (a.length + b.length)) (.ok (.str (a ++ b)) M)
  | .tup xs, .tup ys => rGuard (small (xs.length + ys.length)) (.ok (.tup (xs ++ ys)) M)
  | d, e => match ownL d M, ownL e M with
    | some xs, some ys => rGuard (small (xs.length + ys.length)) (.ok (.lst (xs ++ ys)) M)
    | _, _ => .stuck
def rAddAll (K : PySem.W.Frag) : R2 := fun x y H Q => (rI0 (fun i j => .int (i + j))) x y H Q ∨ (∃ i j, x = .str i ∧ y = .str j ∧ i.length + j.length ≤ sizeLine ∧ Q (.str (i ++ j)) H) ∨ rCatA K x y H Q ∨ rCat x y H Q
theorem op_addAll {X : Cx} : OpR X (binaryOp .Add) (rAddAll X.K) := OpR.or op_add (OpR.or op_add_str (OpR.or op_catA op_cat))
theorem o_add {c : Cl} : Op2 c (rAddAll c.K) opAdd := fun θ P H M d e x y Q Wx w rd re o => by
  unfold opAdd at o
  split at o
  · cases rd; cases re; exact .inl ⟨_, _, rfl, rfl, Out.now (R := RV c) w o rfl⟩
  · cases rd; cases re
    obtain ⟨g, o⟩ := Out.guard (R := RV c) o
    exact .inr (.inl ⟨_, _, rfl, rfl, small_line g, Out.now (R := RV c) w o rfl⟩)
  · rename_i xs ys
    obtain ⟨g, o⟩ := Out.guard (R := RV c) o
    obtain ⟨a, vs, rfl, k1, r1⟩ := rd
    obtain ⟨b, us, rfl, k2, r2⟩ := re
    refine .inr (.inr (.inl ⟨a, b, vs, us, rfl, rfl, sqT_mono w.sub k1, sqT_mono w.sub k2, by rw [r1.length, r2.length]; exact small_line g, fun e => ?_, fun e1 e2 => ?_, fun e1 e2 p hp => ?_⟩))
    · subst e
      have hx : xs = [] := by cases xs with | nil => rfl | cons _ _ => have := r1.length; simp at this
      subst hx
      exact Out.now (R := RV c) w o ⟨b, us, rfl, k2, r2⟩
    · subst e2
      have hy : ys = [] := by cases ys with | nil => rfl | cons _ _ => have := r2.length; simp at this
      subst hy
      rw [List.append_nil] at o
      exact Out.now (R := RV c) w o ⟨a, vs, rfl, k1, r1⟩
    · exact new_tup w hp (r1.append r2) o
  · split at o
    · rename_i xs ys h1 h2
      obtain ⟨g, o⟩ := Out.guard (R := RV c) o
      obtain ⟨a, vs, rfl, k1, r1⟩ := own_read w rd h1
      obtain ⟨b, us, rfl, k2, r2⟩ := own_read w re h2
      exact .inr (.inr (.inr ⟨a, b, vs, us, rfl, rfl, k1, k2, by rw [r1.length, r2.length]; exact small_line g, fun p hp => new_lst w hp (r1.append r2) o⟩))
    · exact o.elim
def opSub (d e : D) (M : MS) : Res D := match d, e with
  | .int i, .int j => .ok (.int (i - j)) M
  | _, _ => .stuck
theorem o_sub {c : Cl} : Op2 c (rI0 fun i j => .int (i - j)) opSub := fun θ P H M d e x y Q Wx w rd re o => by
  unfold opSub at o
  split at o
  · cases rd; cases re; exact ⟨_, _, rfl, rfl, Out.now (R := RV c) w o rfl⟩
  · exact o.elim
def low64 (i : Int) : Bool := decide (-18446744073709551616 < i ∧ i < 18446744073709551616)
theorem low64_ok {i : Int} (h : low64 i = true) : -(2 ^ 64) < i ∧ i < 2 ^ 64 := by
  have := of_decide_eq_true h
  omega
def opMul (d e : D) (M : MS) : Res D := match d, e with
  | .int i, .int j => rGuard (low64 i || low64 j) (.ok (.int (i * j)) M)
  | _, _ => .stuck
theorem o_mul {c : Cl} : Op2 c (rI CMul fun i j => .int (i * j)) opMul := fun θ P H M d e x y Q Wx w rd re o => by
  unfold opMul at o
  split at o
  · obtain ⟨g, o⟩ := Out.guard (R := RV c) o
    cases rd; cases re
    refine ⟨_, _, rfl, rfl, ?_, Out.now (R := RV c) w o rfl⟩
    rcases Bool.or_eq_true_iff.mp g with g | g
    · exact .inl (low64_ok g)
    · exact .inr (low64_ok g)
  · exact o.elim
def opDiv (d e : D) (M : MS) : Res D := match d, e with
  | .int i, .int j => rGuard (decide (0 < j ∧ j < 1073741824)) (.ok (.int (i / j)) M)
  | _, _ => .stuck
theorem o_div {c : Cl} : Op2 c (rI CDiv fun i j => .int (i / j)) opDiv := fun θ P H M d e x y Q Wx w rd re o => by
  unfold opDiv at o
  split at o
  · obtain ⟨g, o⟩ := Out.guard (R := RV c) o
    cases rd; cases re
    have g' : _ ∧ _ := of_decide_eq_true g
    exact ⟨_, _, rfl, rfl, g', Out.now (R := RV c) w o rfl⟩
  · exact o.elim
def opMod (d e : D) (M : MS) : Res D := match d, e with
  | .int i, .int j => rGuard (decide (0 < j)) (.ok (.int (i % j)) M)
  | _, _ => .stuck
theorem o_mod {c : Cl} : Op2 c (rI (fun _ j => 0 < j) fun i j => .int (i % j)) opMod := fun θ P H M d e x y Q Wx w rd re o => by
  unfold opMod at o
  split at o
  · obtain ⟨g, o⟩ := Out.guard (R := RV c) o
    cases rd; cases re
    exact ⟨_, _, rfl, rfl, of_decide_eq_true g, Out.now (R := RV c) w o rfl⟩
  · exact o.elim
def opPow (d e : D) (M : MS) : Res D := match d, e with
  | .int i, .int j => rGuard (decide (0 ≤ j ∧ j ≤ 100 ∧ 0 ≤ i ∧ i ≤ 100)) (.ok (.int (i ^ j.toNat)) M)
  | _, _ => .stuck
theorem o_pow {c : Cl} : Op2 c (rI CPow fun i j => .int (i ^ j.toNat)) opPow := fun θ P H M d e x y Q Wx w rd re o => by
  unfold opPow at o
  split at o
  · obtain ⟨g, o⟩ := Out.guard (R := RV c) o
    cases rd; cases re
    obtain ⟨g1, g2, g3, g4⟩ := of_decide_eq_true g
    exact ⟨_, _, rfl, rfl, ⟨g1, by omega, by omega⟩, Out.now (R := RV c) w o rfl⟩
  · exact o.elim

/-! ### comparisons -/
def opI (f : Int → Int → Bool) (d e : D) (M : MS) : Res D := match d, e with
  | .int i, .int j => .ok (.bl (f i j)) M
  | _, _ => .stuck
theorem o_int {c : Cl} {f : Int → Int → Bool} : Op2 c (rI0 fun i j => .bl (f i j)) (opI f) := fun θ P H M d e x y Q Wx w rd re o => by
  unfold opI at o
  split at o
  · cases rd; cases re; exact ⟨_, _, rfl, rfl, Out.now (R := RV c) w o rfl⟩
  · exact o.elim
def isNon : D → Bool
  | .non => true
  | _ => false
def opIsN (neg : Bool) (d e : D) (M : MS) : Res D := match e with
  | .non => .ok (.bl (if neg then !isNon d else isNon d)) M
  | _ => .stuck
theorem vr_non {c : Cl} {θ : List Addr} {P : Hp} {d : D} {v : V} (r : VR c θ P d v) : decide (v = .non) = isNon d := by
  cases d with
  | non => cases r; rfl
  | bl b => cases r; rfl
  | int b => cases r; rfl
  | str b => cases r; rfl
  | ty b => cases r; rfl
  | cls b => obtain ⟨a, _, rfl⟩ := r; rfl
  | ref b => obtain ⟨a, _, rfl⟩ := r; rfl
  | tup b => obtain ⟨a, _, rfl, _⟩ := r; rfl
  | lst b => obtain ⟨a, _, rfl, _⟩ := r; rfl
  | scr b => obtain ⟨a, _, rfl, _⟩ := r; rfl
  | obj n b => obtain ⟨a, _, _, _, rfl, _⟩ := r; rfl
  | exn n b => obtain ⟨a, _, _, _, _, rfl, _⟩ := r; rfl
  | lam n b => obtain ⟨a, _, _, _, _, rfl, _⟩ := r; rfl
  | lamI n => obtain ⟨a, _, _, _, rfl, _⟩ := r; rfl
  | dic n b => obtain ⟨a, _, rfl, _⟩ := r; rfl
theorem o_isN {c : Cl} : Op2 c (fun x y H Q => y = .non ∧ Q (.bl (decide (x = .non))) H) (opIsN false) := fun θ P H M d e x y Q Wx w rd re o => by
  unfold opIsN at o
  split at o
  · exact ⟨re, Out.now (R := RV c) w o (by rw [vr_non rd]; rfl)⟩
  · exact o.elim
theorem o_notN {c : Cl} : Op2 c (fun x y H Q => y = .non ∧ Q (.bl (!decide (x = .non))) H) (opIsN true) := fun θ P H M d e x y Q Wx w rd re o => by
  unfold opIsN at o
  split at o
  · exact ⟨re, Out.now (R := RV c) w o (by rw [vr_non rd]; rfl)⟩
  · exact o.elim
/-! plain data -/
mutual
def toPy : D → Option PyData
  | .non => some .none
  | .bl b => some (.bool b)
  | .int i => some (.int i)
  | .str s => some (.str s)
  | .tup l => (toPyL l).map .tuple
  | .lst l => (toPyL l).map .list
  | _ => none
def toPyL : List D → Option (List PyData)
  | [] => some []
  | d :: ds => match toPy d, toPyL ds with
    | some x, some xs => some (x :: xs)
    | _, _ => none
end
section
variable {c : Cl} {θ : List Addr} {P H : Hp}
theorem toPy_tup {l : List D} {p : PyData} (h : toPy (.tup l) = some p) : ∃ ps, toPyL l = some ps ∧ p = .tuple ps := by
  unfold toPy at h
  cases z : toPyL l with
  | none => rw [z] at h; cases h
  | some ps => rw [z] at h; cases h; exact ⟨ps, rfl, rfl⟩
theorem toPy_lst {l : List D} {p : PyData} (h : toPy (.lst l) = some p) : ∃ ps, toPyL l = some ps ∧ p = .list ps := by
  unfold toPy at h
  cases z : toPyL l with
  | none => rw [z] at h; cases h
  | some ps => rw [z] at h; cases h; exact ⟨ps, rfl, rfl⟩
theorem toPyL_cons {d : D} {l : List D} {p : List PyData} (h : toPyL (d :: l) = some p) : ∃ x xs, toPy d = some x ∧ toPyL l = some xs ∧ p = x :: xs := by
  unfold toPyL at h
  cases z : toPy d with
  | none => rw [z] at h; cases h
  | some x =>
    cases z2 : toPyL l with
    | none => rw [z, z2] at h; cases h
    | some xs => rw [z, z2] at h; cases h; exact ⟨x, xs, rfl, rfl, rfl⟩
mutual
theorem VR.dp (sub : ∀ b o, P b = some o → H b = some o) : ∀ (d : D) (v : V) (p : PyData), VR c θ P d v → toPy d = some p → Dp c.K H v p
  | .non, _, _, r, h => by cases r; cases h; exact .non
  | .bl _, _, _, r, h => by cases r; cases h; exact .bl _
  | .int _, _, _, r, h => by cases r; cases h; exact .int _
  | .str _, _, _, r, h => by cases r; cases h; exact .str _
  | .tup l, v, p, r, h => by
    obtain ⟨ps, h1, h2⟩ := toPy_tup h
    obtain ⟨a, vs, e, k, q⟩ := r
    rw [e, h2]
    exact .tup (sqT_mono sub k) (VRL.dp sub l vs ps q h1)
  | .lst l, v, p, r, h => by
    obtain ⟨ps, h1, h2⟩ := toPy_lst h
    obtain ⟨a, vs, e, k, q⟩ := r
    rw [e, h2]
    exact .lst (.inl (.inl (sub _ _ k))) (VRL.dp sub l vs ps q h1)
  | .ty _, _, _, _, h => by simp [toPy] at h
  | .cls _, _, _, _, h => by simp [toPy] at h
  | .ref _, _, _, _, h => by simp [toPy] at h
  | .scr _, _, _, _, h => by simp [toPy] at h
  | .obj _ _, _, _, _, h => by simp [toPy] at h
  | .exn _ _, _, _, _, h => by simp [toPy] at h
theorem VRL.dp (sub : ∀ b o, P b = some o → H b = some o) : ∀ (ds : List D) (vs : List V) (ps : List PyData), VRL c θ P ds vs → toPyL ds = some ps → DpAll c.K H vs ps
  | [], _, _, r, h => by cases r; cases h; exact .nil
  | d :: ds, vs, ps, r, h => by
    obtain ⟨x, xs, h1, h2, h3⟩ := toPyL_cons h
    obtain ⟨v, q, e, a, b⟩ := r
    rw [e, h3]
    exact .cons (VR.dp sub d v x a h1) (VRL.dp sub ds q xs b h2)
end
end
def opEq (neg : Bool) (d e : D) (M : MS) : Res D := match toPy d, toPy e with
  | some a, some b => rGuard (SeqAt.shaped a && SeqAt.shaped b) (.ok (.bl (if neg then !PyData.eqv a b else PyData.eqv a b)) M)
  | _, _ => .stuck
theorem o_eq {c : Cl} : Op2 c (rEqD c.K) (opEq false) := fun θ P H M d e x y Q Wx w rd re o => by
  unfold opEq at o
  split at o
  · rename_i a b h1 h2
    obtain ⟨g, o⟩ := Out.guard (R := RV c) o
    obtain ⟨g1, g2⟩ := Bool.and_eq_true_iff.mp g
    exact ⟨a, b, VR.dp w.sub _ _ _ rd h1, VR.dp w.sub _ _ _ re h2, g1, g2, Out.now (R := RV c) w o rfl⟩
  · exact o.elim
theorem o_ne {c : Cl} : Op2 c (rNeD c.K) (opEq true) := fun θ P H M d e x y Q Wx w rd re o => by
  unfold opEq at o
  split at o
  · rename_i a b h1 h2
    obtain ⟨g, o⟩ := Out.guard (R := RV c) o
    obtain ⟨g1, g2⟩ := Bool.and_eq_true_iff.mp g
    exact ⟨a, b, VR.dp w.sub _ _ _ rd h1, VR.dp w.sub _ _ _ re h2, g1, g2, Out.now (R := RV c) w o rfl⟩
  · exact o.elim
/-- one sign in a text -/
def opInS (neg : Bool) (d e : D) (M : MS) : Res D := match d, e with
  | .str ⟨a⟩, .str z => match a.toList with
    | [k] => .ok (.bl (if neg then !decide (k ∈ z.cps.toList) else decide (k ∈ z.cps.toList))) M
    | _ => .stuck
  | _, _ => .stuck
theorem o_inS {c : Cl} : Op2 c (fun x y H Q => ∃ (k : Nat) (z : Str), x = .str ⟨#[k]⟩ ∧ y = .str z ∧ Q (.bl (decide (k ∈ z.cps.toList))) H) (opInS false) := fun θ P H M d e x y Q Wx w rd re o => by
  unfold opInS at o
  split at o
  · rename_i a z
    split at o
    · rename_i k hk
      cases rd; cases re
      have : a = #[k] := by cases a; simpa using hk
      subst this
      exact ⟨k, z, rfl, rfl, Out.now (R := RV c) w o rfl⟩
    · exact o.elim
  · exact o.elim

/-! ### chained comparisons -/
def rChain (f g : D → D → MS → Res D) (a b e : Rn D) : Rn D := fun ρ M => (a ρ M).bind fun x M1 => (b ρ M1).bind fun y M2 => (f x y M2).bind fun z M3 => (toB z M3).bind fun k M4 => if k = true then (e ρ M4).bind fun u M5 => g y u M5 else .ok (.bl false) M4
section
variable {X : Cx} {c : Cl} {W : WX}
theorem chain_read {f g : D → D → MS → Res D} {r r' : R2} (hf : Op2 c r f) (hg : Op2 c r' g) {a b e : Rn D} {σ : L2.St} {H : Hp} {Q : VK} (h : liftE c W (rChain f g a b e) σ H Q) : tChain r r' (liftE c W a) (liftE c W b) (liftE c W e) σ H Q := by
  obtain ⟨ρ, M, θ, P, w, er, o⟩ := h
  refine ⟨ρ, M, θ, P, w, er, Out.bind (R := RV c) o fun d M1 x H1 θ1 P1 w1 s1 r1 o1 => ⟨ρ, M1, θ1, P1, w1, er.step s1, Out.bind (R := RV c) o1 fun d2 M2 y H2 θ2 P2 w2 s2 r2 o2 => ?_⟩⟩
  refine hf _ _ _ _ _ _ _ _ _ _ w2 (r1.step s2) r2 (Out.bind (R := RV c) o2 fun z M3 v H3 θ3 P3 w3 s3 r3 o3 => ?_)
  cases z with
  | bl k =>
    refine ⟨k, r3, ?_⟩
    cases k with
    | true => exact (if_pos rfl).mpr ⟨ρ, M3, θ3, P3, w3, ((er.step s1).step s2).step s3, Out.bind (R := RV c) o3 fun u M5 x5 H5 θ5 P5 w5 s5 r5 o5 => hg _ _ _ _ _ _ _ _ _ _ w5 ((r2.step s3).step s5) r5 o5⟩
    | false => exact (if_neg Bool.false_ne_true).mpr (Out.now (R := RV c) w3 o3 rfl)
  | _ => exact o3.elim
end
end Q

namespace Q
open PySem PySem.Spec PyProof.Rows L2

/-! ### subscripts, slices -/
section
variable {X : Cx} {c : Cl} {W : WX}
theorem VRL.atI {θ : List Addr} {P : Hp} {ds : List D} {vs : List V} {i : Int} {d : D} (r : VRL c θ P ds vs) (h : atI ds i = some d) : ∃ v, L2.atI vs i = some v ∧ VR c θ P d v := by
  unfold L2.atI at h ⊢
  rw [r.length]
  cases q : ixN ds.length i with
  | none => rw [q] at h; cases h
  | some j => rw [q] at h; exact r.get h
def opIx (d e : D) (M : MS) : Res D := match e with
  | .int i => match d with
    | .tup ds => match atI ds i with
      | some x => .ok x M
      | none => .stuck
    | .str z => match atI z.cps.toList i with
      | some k => rGuard (small z.length) (.ok (.str ⟨#[k]⟩) M)
      | none => .stuck
    | d => match lstOf d M with
      | some ds => match atI ds i with
        | some x => .ok x M
        | none => .stuck
      | none => .stuck
  | _ => .stuck
theorem o_ix : Op2 c (rIx c.K) opIx := fun θ P H M d e x y Q Wx w rd re o => by
  unfold opIx at o
  split at o
  · rename_i i
    cases re
    split at o
    · rename_i ds
      split at o
      · rename_i z hz
        obtain ⟨a, vs, rfl, k, r⟩ := tup_read w rd
        obtain ⟨v, e1, rv⟩ := r.atI hz
        exact .inr (.inl ⟨a, vs, i, v, rfl, rfl, k, e1, Out.now (R := RV c) w o rv⟩)
      · exact o.elim
    · rename_i z
      cases rd
      split at o
      · rename_i k hk
        obtain ⟨g, o⟩ := Out.guard (R := RV c) o
        exact .inr (.inr ⟨z, i, k, rfl, rfl, small_line g, hk, Out.now (R := RV c) w o rfl⟩)
      · exact o.elim
    · split at o
      · rename_i ds hl
        split at o
        · rename_i z hz
          obtain ⟨a, vs, rfl, k, r⟩ := lst_read w rd hl
          obtain ⟨v, e1, rv⟩ := r.atI hz
          exact .inl ⟨a, vs, i, v, rfl, rfl, k, e1, Out.now (R := RV c) w o rv⟩
        · exact o.elim
      · exact o.elim
  · exact o.elim
theorem s_ix {a b : Expr} {pos : Pos} {ra rb : Rn D} (hK : c.K = X.K) (ha : PE X a (liftE c W ra)) (hb : PE X b (liftE c W rb)) (hs : PlainIx b := by exact fun _ _ => rfl) : PE X (.Subscript a b pos) (liftE c W (rOp2 opIx ra rb)) :=
  PE.imp (pe_ix (ix_seq (X := X)) ha hb hs) fun σ H Q h => by
    rw [← hK]
    exact two o_ix h
/-- the ends of a slice -/
def rOpt (a : Option (Rn D)) : Rn (Option Int) := fun ρ M => match a with
  | none => .ok none M
  | some a => (a ρ M).bind fun d M1 => match d with
    | .int i => .ok (some i) M1
    | _ => .stuck
def liftO (c : Cl) (W : WX) (run : Rn (Option Int)) : TO := fun σ H Q => ∃ ρ M θ P, Wo c θ P H M ∧ ER c θ P ρ σ ∧ Out c (fun _ _ _ a b => b = a) θ P H Q (fun cv dd H' => W cv dd σ H') (run ρ M)
theorem PO.imp {e : Option Expr} {t t' : TO} (h : PO X e t) (k : ∀ σ H Q, t' σ H Q → t σ H Q) : PO X e t' := ⟨fun pins s σ H Q I q => h.run pins s σ H Q I (k _ _ _ q)⟩
theorem so_none : PO X none (liftO c W (rOpt none)) := PO.imp po_none fun σ H Q ⟨ρ, M, θ, P, w, er, o⟩ => Out.now (R := fun _ _ _ a b => b = a) w o rfl
theorem so_some {e : Expr} {a : Rn D} (h : PE X e (liftE c W a)) : PO X (some e) (liftO c W (rOpt (some a))) :=
  PO.imp (po_some h) fun σ H Q ⟨ρ, M, θ, P, w, er, o⟩ => ⟨ρ, M, θ, P, w, er, Out.bind (R := RV c) o fun d M1 v H1 θ1 P1 w1 s1 r1 o1 => by
    cases d with
    | int i => exact ⟨i, r1, Out.now (R := fun _ _ _ a b => b = a) w1 o1 rfl⟩
    | _ => exact o1.elim⟩
def cutD {α : Type} (xs : List α) (lo hi : Option Int) : List α := (xs.drop (HT.sIx xs.length 0 lo)).take (HT.sIx xs.length xs.length hi - HT.sIx xs.length 0 lo)
theorem VRL.cutD {θ : List Addr} {P : Hp} {ds : List D} {vs : List V} {lo hi : Option Int} (r : VRL c θ P ds vs) : VRL c θ P (_root_.Q.cutD ds lo hi) (cutV vs lo hi) := by
  unfold cutV _root_.Q.cutD
  rw [r.length]
  exact (r.drop _).take _
def opSl (d : D) (lo hi : Option Int) (M : MS) : Res D := match d with
  | .tup ds => .ok (.tup (cutD ds lo hi)) M
  | .str z => rGuard (small z.length) (.ok (.str (cutS z lo hi)) M)
  | d => match lstOf d M with
    | some ds => .ok (.lst (cutD ds lo hi)) M
    | none => .stuck
def rSl (a : Rn D) (l h : Rn (Option Int)) : Rn D := fun ρ M => (a ρ M).bind fun d M1 => (l ρ M1).bind fun lo M2 => (h ρ M2).bind fun hi M3 => opSl d lo hi M3
def rSlAll (K : PySem.W.Frag) : V → Option Int → Option Int → Hp → VK → Prop := fun x lo hi H Q => rSlL K x lo hi H Q ∨ rSlA K x lo hi H Q ∨ rSlS x lo hi H Q
theorem cut_whole {α : Type} {xs : List α} {lo hi : Option Int} (h : HT.sIx xs.length 0 lo = 0 ∧ HT.sIx xs.length xs.length hi = xs.length) : cutD xs lo hi = xs := by
  unfold cutD
  rw [h.1, h.2]
  simp
theorem o_sl {θ : List Addr} {P H : Hp} {M : MS} {d : D} {x : V} {lo hi : Option Int} {Q : VK} {Wx : Value → Option Addr → Hp → Prop} (w : Wo c θ P H M) (rd : VR c θ P d x) (o : OutE c θ P H Q Wx (opSl d lo hi M)) : rSlAll c.K x lo hi H Q := by
  unfold opSl at o
  split at o
  · rename_i ds
    obtain ⟨a, vs, rfl, k, r⟩ := tup_read w rd
    refine .inr (.inl ⟨a, vs, rfl, k, fun e => ?_, fun e p hp => new_tup w hp r.cutD o⟩)
    rw [r.length] at e
    rw [cut_whole e] at o
    exact Out.now (R := RV c) w o rd
  · rename_i z
    cases rd
    obtain ⟨g, o⟩ := Out.guard (R := RV c) o
    exact .inr (.inr ⟨z, rfl, small_line g, Out.now (R := RV c) w o rfl⟩)
  · split at o
    · rename_i ds hl
      obtain ⟨a, vs, rfl, k, r⟩ := lst_read w rd hl
      exact .inl ⟨a, vs, rfl, k, fun p hp => new_lst w hp r.cutD o⟩
    · exact o.elim
theorem s_sl {e : Expr} {lo hi : Option Expr} {pos p2 : Pos} {ra : Rn D} {rl rh : Rn (Option Int)} (hK : c.K = X.K) (h : PE X e (liftE c W ra)) (hl : PO X lo (liftO c W rl)) (hh : PO X hi (liftO c W rh)) : PE X (.Subscript e (.Slice lo hi none p2) pos) (liftE c W (rSl ra rl rh)) :=
  PE.imp (pe_slice (SlR.or (sl_list (X := X)) (SlR.or sl_tupA sl_str)) h hl hh) fun σ H Q ⟨ρ, M, θ, P, w, er, o⟩ => ⟨ρ, M, θ, P, w, er, Out.bind (R := RV c) o fun d M1 x H1 θ1 P1 w1 s1 r1 o1 =>
    ⟨ρ, M1, θ1, P1, w1, er.step s1, Out.bind (R := fun _ _ _ a b => b = a) o1 fun lo M2 lo' H2 θ2 P2 w2 s2 r2 o2 =>
      ⟨ρ, M2, θ2, P2, w2, (er.step s1).step s2, Out.bind (R := fun _ _ _ a b => b = a) o2 fun hi M3 hi' H3 θ3 P3 w3 s3 r3 o3 => by
        subst r2; subst r3
        rw [← hK]
        exact o_sl w3 ((r1.step s2).step s3) o3⟩⟩⟩
/-- xs[i] = e, of a changeable list -/
def rPut (v a b : Rn D) : Sn := fun ρ M => bindS (v ρ M) ρ fun y M1 => bindS (a ρ M1) ρ fun d M2 => bindS (b ρ M2) ρ fun e M3 => match d, e with
  | .ref l, .int i => match M3[l]? with
    | some (.lst ds) => match ixN ds.length i with
      | some j => .nx ρ (M3.set l (.lst (ds.set j y)))
      | none => .stuck
    | _ => .stuck
  | _, _ => .stuck
theorem st_put {o i e : Expr} {spos pos : Pos} {rv ra rb : Rn D} (hv : PE X e (liftE c W rv)) (ha : PE X o (liftE c W ra)) (hb : PE X i (liftE c W rb)) (h : PS X (.Assign [.Subscript o i spos] e pos) (tAsg (liftE c W rv) (gSub (liftE c W ra) (liftE c W rb) rSetL))) : PS X (.Assign [.Subscript o i spos] e pos) (liftS c W (rPut rv ra rb)) :=
  PS.imp h fun E σ H ⟨ρ, M, θ, P, w, er, o⟩ => ⟨ρ, M, θ, P, w, er, OutS.bind (R := RV c) er o fun y M1 v H1 θ1 P1 w1 s1 r1 er1 o1 =>
    ⟨ρ, M1, θ1, P1, w1, er1, OutS.bind (R := RV c) er1 o1 fun d M2 x H2 θ2 P2 w2 s2 r2 er2 o2 =>
      ⟨ρ, M2, θ2, P2, w2, er2, OutS.bind (R := RV c) er2 o2 fun k M3 z H3 θ3 P3 w3 s3 r3 er3 o3 => by
        have r1 := (r1.step s2).step s3
        have r2 := r2.step s3
        cases d with
        | ref l =>
          cases k with
          | int i =>
            cases r3
            obtain ⟨a, e, rfl⟩ := r2
            cases q : M3[l]? with
            | none => simp only [q] at o3; exact o3.elim
            | some mo =>
              cases mo with
              | lst ds =>
                simp only [q] at o3
                cases qi : ixN ds.length i with
                | none => simp only [qi] at o3; exact o3.elim
                | some j =>
                  simp only [qi] at o3
                  obtain ⟨vs, k1, k2⟩ := w3.cell l a _ e q
                  obtain ⟨w4, s4⟩ := w3.setM (o := .lst (vs.set j v)) (mo' := .lst (ds.set j y)) e q (by simp) ⟨_, upd_same, VRL.set r1 j k2⟩
                  exact ⟨a, vs, i, j, rfl, rfl, k1, by rw [k2.length]; exact qi, o3 _ _ _ _ w4 s4 (er3.step s4)⟩
              | inst n fs => simp only [q] at o3; exact o3.elim
              | dic t kvs => simp only [q] at o3; exact o3.elim
              | dead => simp only [q] at o3; exact o3.elim
          | _ => exact o3.elim
        | _ => exact o3.elim⟩⟩⟩

/-! ### built-ins called by name -/
def CallD (c : Cl) (r : List V → Hp → VK → Prop) (f : Fn) : Prop := ∀ θ P H M ds vs Q Wx, Wo c θ P H M → VRL c θ P ds vs → OutE c θ P H Q Wx (f ds M) → r vs H Q
def rFun (f : Fn) (a : Rn (List D)) : Rn D := fun ρ M => (a ρ M).bind f
theorem fun_read {f : Fn} {r : List V → Hp → VK → Prop} (hf : CallD c r f) {a : Rn (List D)} {σ : L2.St} {H : Hp} {Q : VK} (h : liftE c W (rFun f a) σ H Q) : tCB r (liftA c W a) σ H Q := by
  obtain ⟨ρ, M, θ, P, w, er, o⟩ := h
  exact ⟨ρ, M, θ, P, w, er, Out.bind (R := RL c) o fun ds M1 vs H1 θ1 P1 w1 s1 r1 o1 => hf _ _ _ _ _ _ _ _ w1 r1 o1⟩
theorem s_fun {e : Expr} {r : List V → Hp → VK → Prop} {f : Fn} {a : Rn (List D)} (hf : CallD c r f) (h : PE X e (tCB r (liftA c W a))) : PE X e (liftE c W (rFun f a)) := PE.imp h fun σ H Q q => fun_read hf q
theorem CallR.or {f : Value} {r r' : List V → Hp → VK → Prop} (h : CallR X f r) (h' : CallR X f r') : CallR X f (fun vs H Q => r vs H Q ∨ r' vs H Q) := fun pins s σ H xs us Q I rr q => q.elim (h pins s σ H xs us Q I rr) (h' pins s σ H xs us Q I rr)
theorem VRL.inv1 {θ : List Addr} {P : Hp} {d : D} {vs : List V} (r : VRL c θ P [d] vs) : ∃ v, vs = [v] ∧ VR c θ P d v := by
  obtain ⟨v, q, e, a, b⟩ := r
  cases b
  exact ⟨v, e, a⟩
theorem VRL.inv2 {θ : List Addr} {P : Hp} {d d' : D} {vs : List V} (r : VRL c θ P [d, d'] vs) : ∃ v v', vs = [v, v'] ∧ VR c θ P d v ∧ VR c θ P d' v' := by
  obtain ⟨v, q, e, a, b⟩ := r
  obtain ⟨v', rfl, a'⟩ := VRL.inv1 b
  exact ⟨v, v', e, a, a'⟩
def fLen : Fn := fun ds M => match ds with
  | [.str s] => rGuard (small s.length) (.ok (.int s.length) M)
  | [.tup xs] => .ok (.int xs.length) M
  | [d] => match lstOf d M with
    | some xs => .ok (.int xs.length) M
    | none => .stuck
  | _ => .stuck
theorem c_len : CallD c (fun xs H Q => ∃ x n, xs = [x] ∧ LenV c.K x H n ∧ Q (.int n) H) fLen := fun θ P H M ds vs Q Wx w r o => by
  unfold fLen at o
  split at o
  · rename_i s
    obtain ⟨v, rfl, r1⟩ := r.inv1
    cases r1
    obtain ⟨g, o⟩ := Out.guard (R := RV c) o
    exact ⟨.str s, s.length, rfl, ⟨small_line g, rfl⟩, Out.now (R := RV c) w o rfl⟩
  · rename_i xs
    obtain ⟨v, rfl, r1⟩ := r.inv1
    obtain ⟨a, ws, rfl, k, q⟩ := tup_read w r1
    exact ⟨_, ws.length, rfl, .inr ⟨ws, k, rfl⟩, Out.now (R := RV c) w o (by rw [q.length]; rfl)⟩
  · rename_i d _ _
    obtain ⟨v, rfl, r1⟩ := r.inv1
    split at o
    · rename_i xs hl
      obtain ⟨a, ws, rfl, k, q⟩ := lst_read w r1 hl
      exact ⟨_, ws.length, rfl, .inl ⟨ws, k, rfl⟩, Out.now (R := RV c) w o (by rw [q.length]; rfl)⟩
    · exact o.elim
  · exact o.elim
/-- a list of truth values, of whole numbers, of textsOf -/
def boolsOf : List D → Option (List Bool)
  | [] => some []
  | .bl b :: r => (boolsOf r).map (b :: ·)
  | _ => none
def numsOf : List D → Option (List Int)
  | [] => some []
  | .int b :: r => (numsOf r).map (b :: ·)
  | _ => none
def textsOf : List D → Option (List Str)
  | [] => some []
  | .str b :: r => (textsOf r).map (b :: ·)
  | _ => none
theorem bools_vals {θ : List Addr} {P : Hp} : ∀ {ds : List D} {bs : List Bool} {vs : List V}, boolsOf ds = some bs → VRL c θ P ds vs → vs = bs.map V.bl
  | [], _, _, h, r => by cases h; cases r; rfl
  | .bl b :: ds, bs, _, h, ⟨v, q, e, a, k⟩ => by
    unfold boolsOf at h
    cases z : boolsOf ds with
    | none => rw [z] at h; cases h
    | some xs => rw [z] at h; cases h; subst e; cases a; rw [bools_vals z k]; rfl
theorem ints_vals {θ : List Addr} {P : Hp} : ∀ {ds : List D} {bs : List Int} {vs : List V}, numsOf ds = some bs → VRL c θ P ds vs → vs = bs.map V.int
  | [], _, _, h, r => by cases h; cases r; rfl
  | .int b :: ds, bs, _, h, ⟨v, q, e, a, k⟩ => by
    unfold numsOf at h
    cases z : numsOf ds with
    | none => rw [z] at h; cases h
    | some xs => rw [z] at h; cases h; subst e; cases a; rw [ints_vals z k]; rfl
theorem texts_vals {θ : List Addr} {P : Hp} : ∀ {ds : List D} {bs : List Str} {vs : List V}, textsOf ds = some bs → VRL c θ P ds vs → vs = bs.map V.str
  | [], _, _, h, r => by cases h; cases r; rfl
  | .str b :: ds, bs, _, h, ⟨v, q, e, a, k⟩ => by
    unfold textsOf at h
    cases z : textsOf ds with
    | none => rw [z] at h; cases h
    | some xs => rw [z] at h; cases h; subst e; cases a; rw [texts_vals z k]; rfl
def fAll (any : Bool) : Fn := fun ds M => match ds with
  | [d] => match (lstOf d M).bind boolsOf with
    | some bs => .ok (.bl (if any then bs.any id else bs.all id)) M
    | none => .stuck
  | _ => .stuck
theorem all_core {θ : List Addr} {P H : Hp} {M : MS} {d : D} {v : V} {bs : List Bool} (w : Wo c θ P H M) (r : VR c θ P d v) (h : (lstOf d M).bind boolsOf = some bs) : ∃ a, v = .ref a ∧ SqL c.K H a (bs.map V.bl) := by
  cases q : lstOf d M with
  | none => rw [q] at h; cases h
  | some xs =>
    rw [q] at h
    obtain ⟨a, ws, rfl, k, q⟩ := lst_read w r q
    rw [bools_vals h q] at k
    exact ⟨a, rfl, k⟩
theorem c_all : CallD c (rAll c.K) (fAll false) := fun θ P H M ds vs Q Wx w r o => by
  unfold fAll at o
  split at o
  · obtain ⟨v, rfl, r1⟩ := r.inv1
    split at o
    · rename_i bs hb
      obtain ⟨a, rfl, k⟩ := all_core w r1 hb
      exact ⟨a, bs, rfl, k, Out.now (R := RV c) w o rfl⟩
    · exact o.elim
  · exact o.elim
theorem c_any : CallD c (rAny c.K) (fAll true) := fun θ P H M ds vs Q Wx w r o => by
  unfold fAll at o
  split at o
  · obtain ⟨v, rfl, r1⟩ := r.inv1
    split at o
    · rename_i bs hb
      obtain ⟨a, rfl, k⟩ := all_core w r1 hb
      exact ⟨a, bs, rfl, k, Out.now (R := RV c) w o rfl⟩
    · exact o.elim
  · exact o.elim
def fSum : Fn := fun ds M => match ds with
  | [d] => match (lstOf d M).bind numsOf with
    | some bs => .ok (.int bs.sum) M
    | none => .stuck
  | _ => .stuck
theorem ints_core {θ : List Addr} {P H : Hp} {M : MS} {d : D} {v : V} {bs : List Int} (w : Wo c θ P H M) (r : VR c θ P d v) (h : (lstOf d M).bind numsOf = some bs) : ∃ a, v = .ref a ∧ SqL c.K H a (bs.map V.int) := by
  cases q : lstOf d M with
  | none => rw [q] at h; cases h
  | some xs =>
    rw [q] at h
    obtain ⟨a, ws, rfl, k, q⟩ := lst_read w r q
    rw [ints_vals h q] at k
    exact ⟨a, rfl, k⟩
theorem c_sum : CallD c (rSum c.K) fSum := fun θ P H M ds vs Q Wx w r o => by
  unfold fSum at o
  split at o
  · obtain ⟨v, rfl, r1⟩ := r.inv1
    split at o
    · rename_i bs hb
      obtain ⟨a, rfl, k⟩ := ints_core w r1 hb
      exact ⟨a, bs, rfl, k, Out.now (R := RV c) w o rfl⟩
    · exact o.elim
  · exact o.elim
/-- int(..) -/
def fInt : Fn := fun ds M => match ds with
  | [.int i] => .ok (.int i) M
  | [.str a] => match PySem.intText? a with
    | some n => rGuard (decide (a.length ≤ 640)) (.ok (.int n) M)
    | none => .stuck
  | _ => .stuck
def rIntAll : List V → Hp → VK → Prop := fun xs H Q => ((∃ i, xs = [.int i] ∧ Q (.int i) H) ∨ ∃ k, xs = [.bl k] ∧ Q (.int (if k then 1 else 0)) H) ∨ (∃ a n, xs = [.str a] ∧ PySem.intText? a = some n ∧ a.length ≤ 640 ∧ Q (.int n) H)
theorem call_intAll : CallR X (.type "int") rIntAll := CallR.or call_int1 call_int_str
theorem c_int : CallD c rIntAll fInt := fun θ P H M ds vs Q Wx w r o => by
  unfold fInt at o
  split at o
  · obtain ⟨v, rfl, r1⟩ := r.inv1
    cases r1
    exact .inl (.inl ⟨_, rfl, Out.now (R := RV c) w o rfl⟩)
  · obtain ⟨v, rfl, r1⟩ := r.inv1
    cases r1
    split at o
    · rename_i n hn
      obtain ⟨g, o⟩ := Out.guard (R := RV c) o
      exact .inr ⟨_, n, rfl, hn, of_decide_eq_true g, Out.now (R := RV c) w o rfl⟩
    · exact o.elim
  · exact o.elim
/-- str(..) of a whole number -/
def fStr : Fn := fun ds M => match ds with
  | [.int i] => rGuard (decide (i.natAbs.log2 < 1920)) (.ok (.str (toString i)) M)
  | _ => .stuck
theorem c_str : CallD c (fun xs H Q => ∃ i, xs = [.int i] ∧ i.natAbs.log2 < 1920 ∧ Q (.str (toString i)) H) fStr := fun θ P H M ds vs Q Wx w r o => by
  unfold fStr at o
  split at o
  · obtain ⟨v, rfl, r1⟩ := r.inv1
    cases r1
    obtain ⟨g, o⟩ := Out.guard (R := RV c) o
    exact ⟨_, rfl, of_decide_eq_true g, Out.now (R := RV c) w o rfl⟩
  · exact o.elim

/-! ### methods of built-in types -/
def tyD (T : String) (d : D) (M : MS) : Bool := match d with
  | .str _ => T == "str"
  | d => T == "list" && (lstOf d M).isSome
theorem ty_read {T : String} {θ : List Addr} {P H : Hp} {M : MS} {d : D} {v : V} (w : Wo c θ P H M) (r : VR c θ P d v) (h : tyD T d M = true) : tyV c.K T v H := by
  unfold tyD at h
  split at h
  · cases r
    exact beq_iff_eq.mp h
  · obtain ⟨h1, h2⟩ := Bool.and_eq_true_iff.mp h
    obtain ⟨ds, q⟩ := Option.isSome_iff_exists.mp h2
    obtain ⟨a, vs, rfl, k, _⟩ := lst_read w r q
    exact .inl ⟨beq_iff_eq.mp h1, vs, k⟩
def MtD (c : Cl) (r : V → List V → Hp → VK → Prop) (f : D → Fn) : Prop := ∀ θ P H M d x ds vs Q Wx, Wo c θ P H M → VR c θ P d x → VRL c θ P ds vs → OutE c θ P H Q Wx (f d ds M) → r x vs H Q
def rMt (T : String) (f : D → Fn) (o : Rn D) (a : Rn (List D)) : Rn D := fun ρ M => (o ρ M).bind fun d M1 => rGuard (tyD T d M1) ((a ρ M1).bind fun ds M2 => f d ds M2)
theorem mt_read {T : String} {f : D → Fn} {r : V → List V → Hp → VK → Prop} (hf : MtD c r f) {o : Rn D} {a : Rn (List D)} {σ : L2.St} {H : Hp} {Q : VK} (h : liftE c W (rMt T f o a) σ H Q) : tBM c.K T r (liftE c W o) (liftA c W a) σ H Q := by
  obtain ⟨ρ, M, θ, P, w, er, o⟩ := h
  exact ⟨ρ, M, θ, P, w, er, Out.bind (R := RV c) o fun d M1 x H1 θ1 P1 w1 s1 r1 o1 => by
    obtain ⟨g, o1⟩ := Out.guard (R := RV c) o1
    exact ⟨ty_read w1 r1 g, ρ, M1, θ1, P1, w1, er.step s1, Out.bind (R := RL c) o1 fun ds M2 vs H2 θ2 P2 w2 s2 r2 o2 => hf _ _ _ _ _ _ _ _ _ _ w2 (r1.step s2) r2 o2⟩⟩
theorem s_mt {e : Expr} {T : String} {r : V → List V → Hp → VK → Prop} {f : D → Fn} {o : Rn D} {a : Rn (List D)} (hK : c.K = X.K) (hf : MtD c r f) (h : PE X e (tBM X.K T r (liftE c W o) (liftA c W a))) : PE X e (liftE c W (rMt T f o a)) := PE.imp h fun σ H Q q => by
  rw [← hK]
  exact mt_read hf q
/-- sep.join(..) -/
def fJoin (d : D) : Fn := fun ds M => match d, ds with
  | .str a, [.tup l] => match textsOf l with
    | some ys => rGuard (small ((ys.map (·.length)).sum + ys.length * a.length)) (.ok (.str (Txt.join a ys)) M)
    | none => .stuck
  | .str a, [x] => match (lstOf x M).bind textsOf with
    | some ys => rGuard (small ((ys.map (·.length)).sum + ys.length * a.length)) (.ok (.str (Txt.join a ys)) M)
    | none => .stuck
  | _, _ => .stuck
theorem m_join : MtD c (fun x xs H Q => ∃ a p, ∃ ys : List Str, x = .str a ∧ xs = [.ref p] ∧ (SqL c.K H p (ys.map V.str) ∨ SqT c.K H p (ys.map V.str)) ∧ (ys.map (·.length)).sum + ys.length * a.length ≤ 16777216 ∧ Q (.str (Txt.join a ys)) H) fJoin := fun θ P H M d x ds vs Q Wx w rd r o => by
  unfold fJoin at o
  split at o
  · rename_i a l
    cases rd
    obtain ⟨v, rfl, r1⟩ := r.inv1
    split at o
    · rename_i ys hy
      obtain ⟨g, o⟩ := Out.guard (R := RV c) o
      obtain ⟨p, ws, rfl, k, q⟩ := tup_read w r1
      rw [texts_vals hy q] at k
      exact ⟨a, p, ys, rfl, rfl, .inr k, of_decide_eq_true g, Out.now (R := RV c) w o rfl⟩
    · exact o.elim
  · rename_i a z hz
    cases rd
    obtain ⟨v, rfl, r1⟩ := r.inv1
    split at o
    · rename_i ys hy
      obtain ⟨g, o⟩ := Out.guard (R := RV c) o
      cases q : lstOf z M with
      | none => rw [q] at hy; cases hy
      | some xs =>
        rw [q] at hy
        obtain ⟨p, ws, rfl, k, q⟩ := lst_read w r1 q
        rw [texts_vals hy q] at k
        exact ⟨a, p, ys, rfl, rfl, .inl k, of_decide_eq_true g, Out.now (R := RV c) w o rfl⟩
    · exact o.elim
  · exact o.elim
end
end Q

namespace Q
open PySem PySem.Spec PyProof.Rows L2

section
variable {X : Cx} {c : Cl} {W : WX} {E : XK} {k n : Nat} {f : Addr} {fd : FuncData} {ps : List Str} {run : Fn} {x : Str} {p pos : Pos} {e : Expr} {es : List Expr} {ra : Rn (List D)}
/-- f(e, ..) -/
theorem s_call (m : Md X c W E) (F : FnOk X.prog X.w X.K X.mg X.base (L2.CX X.prog X.w) k f fd ps (spF c n run)) (hr : Room k X.A) (hm : X.mg x = some (.ref f)) (hk : PySem.W.keepIn X.K (.ref f) = true) (hb : Binds X.K fd ps []) (ha : PA X (e :: es) (liftA c W ra))
    (hg : Gl X x := by rfl) (hdb : (x == ("__debug__" : Str)) = false := by decide) (he : starEach (e :: es) X.env = (false, eval e X.env) :: starEach es X.env := by rfl) (hpl : (backTo pos (starEach es X.env)).any (·.1) = false := by rfl) :
    PE X (.Call (.Name x p) (e :: es) [] pos) (liftE c W (rCall n run [] ra)) :=
  PE.imp (pe_call F hr hg hm hk hb .nil m.pass ha hdb he hpl) fun σ H Q h => call_read m (es := []) (dvs := []) (fun _ _ => rfl) h
theorem s_call0 (m : Md X c W E) (F : FnOk X.prog X.w X.K X.mg X.base (L2.CX X.prog X.w) k f fd ps (spF c n run)) (hr : Room k X.A) (hm : X.mg x = some (.ref f)) (hk : PySem.W.keepIn X.K (.ref f) = true) (hb : Binds X.K fd ps [])
    (hg : Gl X x := by rfl) (hdb : (x == ("__debug__" : Str)) = false := by decide) :
    PE X (.Call (.Name x p) [] [] pos) (liftE c W (rCall n run [] rNil)) :=
  PE.imp (pe_call0 F hr hg hm hk hb .nil m.pass hdb) fun σ H Q h => by
    obtain ⟨ρ, M, θ, P, w, er, o⟩ := call_read m (es := []) (dvs := []) (fun _ _ => rfl) h
    exact Out.now (R := RL c) w o rfl
end
/-- a def that is never reached -/
theorem fn_never {P : Program} {w : World} {c : Cl} {mg : Str → Option Value} {base : Heap} {CX : CXT} {k n : Nat} {f : Addr} {fd : FuncData} {ps : List Str} : FnOk P w c.K mg base CX k f fd ps (spF c n (fun _ _ => .stuck)) :=
  ⟨fun vs H Q E h => by obtain ⟨_, _, _, _, _, _, _, o⟩ := h; exact o.elim, fun A outer s H args us vs Q E _ _ _ _ h => by obtain ⟨_, _, _, _, _, _, _, o⟩ := h; exact o.elim⟩

/-! ### the end -/
theorem scr_ints {c : Cl} {P : Hp} : ∀ ns : List Int, VRL c [] P (ns.map D.int) (ns.map V.int)
  | [] => rfl
  | n :: ns => ⟨_, _, rfl, rfl, scr_ints ns⟩
/-- all that stands, but the tables -/
def noTab (H : Hp) : Hp := fun b => match H b with
  | some (.tbl _) => none
  | o => o
theorem noTab_sub {H : Hp} {b : Addr} {o : HO} (e : noTab H b = some o) : H b = some o := by
  unfold noTab at e
  split at e
  · cases e
  · exact e
theorem noTab_of {H : Hp} {b : Addr} {o : HO} (e : H b = some o) (n : ∀ ps, o ≠ .tbl ps) : noTab H b = some o := by
  unfold noTab
  split
  · rename_i ps q
    rw [e] at q
    exact absurd (Option.some.inj q) (n ps)
  · exact e
theorem noTab_sq {K : PySem.W.Frag} {H : Hp} {a : Addr} {vs : List V} : SqL K H a vs → SqL K (noTab H) a vs
  | .inl (.inl e) => .inl (.inl (noTab_of e fun _ z => by cases z))
  | .inl (.inr ⟨o, e⟩) => .inl (.inr ⟨o, noTab_of e fun _ z => by cases z⟩)
  | .inr e => .inr e
theorem law_sp {c : Cl} {run : Fn} {H : Hp} {a : Addr} {ns : List Int} (hT : LamX.Tabs c.tabs H) (hS : SqL c.K H a (ns.map V.int)) (h : ∃ M', run [.scr (ns.map D.int)] [] = .ok (.bl true) M') : spF c 1 run [.ref a] H (fun v _ => v = .bl true) fun _ _ _ => False := by
  obtain ⟨M', e⟩ := h
  refine ⟨[.scr (ns.map D.int)], [], [], noTab H, ⟨fun _ _ e => noTab_sub e, rfl, fun _ _ _ e => by simp at e, fun _ _ _ e => by simp at e, fun _ _ _ e => by simp at e, fun _ m => by simp at m, hT, fun b ps z => ?_⟩, ⟨_, _, rfl, ⟨a, _, rfl, noTab_sq hS, scr_ints ns⟩, rfl⟩, rfl, ?_⟩
  · unfold noTab at z
    split at z
    · cases z
    · rename_i q; exact q _ z
  · rw [e]
    exact fun v H' θ' P' w s r => r
theorem cx_end {P : Program} {w : World} {H : Hp} {s : Shared} {e : Value} {s' : Shared} (h : L2.CX P w [] H s (fun _ _ _ => False) e s') : False := by
  obtain ⟨_, _, _, _, _, _, _, _, _, _, _, _, h⟩ := h
  exact h
end Q

namespace Q
open PySem PySem.Spec PyProof.Rows L2

/-! ### how arguments come to parameters -/
/-- a parameter's value: a positional one, a keyword's, a default -/
inductive Ar where
  | p (i : Nat)
  | k (i : Nat)
  | d (i : Nat)
def pick1 {α : Type} (us ws ds : List α) : Ar → Option α
  | .p i => us[i]?
  | .k i => ws[i]?
  | .d i => ds[i]?
def arr {α : Type} (ix : List Ar) (us ws ds : List α) : List α := ix.filterMap (pick1 us ws ds)
/-- F binds n positional values and the keywords ks as ix says; ds: the defaults' values -/
structure Bnd (K : PySem.W.Frag) (fd : FuncData) (ps : List Str) (n : Nat) (ks : List Str) (ix : List Ar) (ds : List Value) : Prop where
  to : ∀ (s : Shared) (us ws : List Value), K.In s.heap → us.length = n → ws.length = ks.length → BindsTo s fd ⟨us, ks.zip ws⟩ (ps.zip (arr ix us ws ds))
theorem vals_opt {vs : List V} {us : List Value} (r : Vals vs us) (i : Nat) : (vs[i]? = none ∧ us[i]? = none) ∨ ∃ v u, vs[i]? = some v ∧ us[i]? = some u ∧ RelV v u := by
  cases e : vs[i]? with
  | none => exact .inl ⟨rfl, r.none_of e⟩
  | some v => obtain ⟨u, h1, h2⟩ := r.get e; exact .inr ⟨v, u, rfl, h1, h2⟩
theorem vrl_opt {c : Cl} {θ : List Addr} {P : Hp} {ds : List D} {vs : List V} (r : VRL c θ P ds vs) (i : Nat) : (ds[i]? = none ∧ vs[i]? = none) ∨ ∃ d v, ds[i]? = some d ∧ vs[i]? = some v ∧ VR c θ P d v := by
  cases e : ds[i]? with
  | none => exact .inl ⟨rfl, by rw [List.getElem?_eq_none_iff] at e ⊢; rw [r.length]; exact e⟩
  | some d => obtain ⟨v, h1, h2⟩ := r.get e; exact .inr ⟨d, v, rfl, h1, h2⟩
theorem vals_arr {vs zs es : List V} {us ws ds : List Value} (r : Vals vs us) (rz : Vals zs ws) (rd : Vals es ds) : ∀ ix : List Ar, Vals (arr ix vs zs es) (arr ix us ws ds)
  | [] => .nil
  | x :: ix => by
    have ih := vals_arr r rz rd ix
    unfold arr at ih ⊢
    have key : (pick1 vs zs es x = none ∧ pick1 us ws ds x = none) ∨ ∃ v u, pick1 vs zs es x = some v ∧ pick1 us ws ds x = some u ∧ RelV v u := by
      cases x with
      | p i => exact vals_opt r i
      | k i => exact vals_opt rz i
      | d i => exact vals_opt rd i
    rcases key with ⟨h1, h2⟩ | ⟨v, u, h1, h2, h3⟩
    · rw [List.filterMap_cons, List.filterMap_cons, h1, h2]; exact ih
    · rw [List.filterMap_cons, List.filterMap_cons, h1, h2]; exact .cons h3 ih
theorem vrl_arr {c : Cl} {θ : List Addr} {P : Hp} {as bs es : List D} {vs zs dv : List V} (r : VRL c θ P as vs) (rz : VRL c θ P bs zs) (rd : VRL c θ P es dv) : ∀ ix : List Ar, VRL c θ P (arr ix as bs es) (arr ix vs zs dv)
  | [] => rfl
  | x :: ix => by
    have ih := vrl_arr r rz rd ix
    unfold arr at ih ⊢
    have key : (pick1 as bs es x = none ∧ pick1 vs zs dv x = none) ∨ ∃ v u, pick1 as bs es x = some v ∧ pick1 vs zs dv x = some u ∧ VR c θ P v u := by
      cases x with
      | p i => exact vrl_opt r i
      | k i => exact vrl_opt rz i
      | d i => exact vrl_opt rd i
    rcases key with ⟨h1, h2⟩ | ⟨v, u, h1, h2, h3⟩
    · rw [List.filterMap_cons, List.filterMap_cons, h1, h2]; exact ih
    · rw [List.filterMap_cons, List.filterMap_cons, h1, h2]; exact ⟨u, _, rfl, h3, ih⟩
section
variable {X : Cx} {c : Cl} {W : WX} {E : XK} {k n np : Nat} {f : Addr} {fd : FuncData} {ps ks : List Str} {ix : List Ar} {ds : List Value} {dvs : List V} {es : List D} {run : Fn} {x : Str} {p pos : Pos} {e : Expr} {args : List Expr} {kws : List Keyword} {ra rk : Rn (List D)}
theorem call_core {pins : List (Addr × Obj)} {σ : L2.St} {H : Hp} {s : Shared} {Q : VK} {us ws : List Value} {vs zs : List V} (m : Md X c W E) (F : FnOk X.prog X.w X.K X.mg X.base (L2.CX X.prog X.w) k f fd ps (spF c n run)) (hr : Room k X.A) (B : Bnd X.K fd ps np ks ix ds) (hd : Vals dvs ds)
    (I : Inv X pins σ H s) (r : Vals vs us) (rz : Vals zs ws) (l1 : vs.length = np) (l2 : zs.length = ks.length) (h : spF c n run (arr ix vs zs dvs) H Q E) : wpAny (model X.prog X.w) X.A (call (.ref f) us (ks.zip ws)) (EP X pins σ Q) X.xe s := by
  refine wpAny_call (codeAny_mono (F.run X.A X.stack s H ⟨us, ks.zip ws⟩ (arr ix us ws ds) (arr ix vs zs dvs) Q E hr I.env0 (B.to s us ws I.kIn (r.length.symm.trans l1) (rz.length.symm.trans l2)) (vals_arr r rz hd ix) h) fun r s' hq => ?_)
  cases r with
  | error e => exact m.pass pins σ H s e s' I hq
  | ok fl =>
    cases fl with
    | ret u => exact I.after hq
    | next => exact False.elim hq
    | brk => exact False.elim hq
    | cont => exact False.elim hq
/-- the keywords' values -/
theorem PK.imp {kws : List Keyword} {t t' : TA} (h : PK X kws t) (k : ∀ σ H Q, t' σ H Q → t σ H Q) : PK X kws t' := ⟨fun pos pins s σ H Q I q => h.run pos pins s σ H Q I (k _ _ _ q)⟩
theorem sk_nil : PK X [] (liftA c W rNil) := PK.imp pk_nil fun σ H Q ⟨ρ, M, θ, P, w, er, o⟩ => Out.now (R := RL c) w o rfl
theorem sk_cons {nm : Option Str} {kpos : Pos} {a : Rn D} {r : Rn (List D)} (ha : PE X e (liftE c W a)) (hr : PK X kws (liftA c W r)) : PK X (⟨nm, e, kpos⟩ :: kws) (liftA c W (rCons a r)) :=
  PK.imp (pk_cons ha hr) fun σ H Q ⟨ρ, M, θ, P, w, er, o⟩ =>
    ⟨ρ, M, θ, P, w, er, Out.bind (R := RV c) o fun d M1 v H1 θ1 P1 w1 s1 r1 o1 => ⟨ρ, M1, θ1, P1, w1, er.step s1, Out.bind (R := RL c) o1 fun ds M2 vs H2 θ2 P2 w2 s2 r2 o2 => Out.now (R := RL c) w2 o2 ⟨v, vs, rfl, r1.step s2, r2⟩⟩⟩
/-- np positional values, nk keywords' values, arranged as ix says -/
def rArgs (np nk n : Nat) (run : Fn) (ix : List Ar) (es : List D) (a k : Rn (List D)) : Rn D := fun ρ M => (a ρ M).bind fun ds M1 => (k ρ M1).bind fun zs M2 =>
  rGuard (decide (ds.length = np ∧ zs.length = nk ∧ (arr ix ds zs es).length = n)) (run (arr ix ds zs es) M2)
/-- f(e, .., x = y, ..) -/
theorem s_callG (m : Md X c W E) (F : FnOk X.prog X.w X.K X.mg X.base (L2.CX X.prog X.w) k f fd ps (spF c n run)) (hr : Room k X.A) (hm : X.mg x = some (.ref f)) (hk : PySem.W.keepIn X.K (.ref f) = true) (B : Bnd X.K fd ps np ks ix ds) (hd : Vals dvs ds) (he0 : ∀ θ P, VRL c θ P es dvs)
    (ha : PA X (e :: args) (liftA c W ra)) (hkw : PK X kws (liftA c W rk)) (hg : Gl X x := by rfl) (hdb : (x == ("__debug__" : Str)) = false := by decide) (hall : (backToKw pos (keywordEach kws X.env)).all (·.1.isSome) = true := by rfl) (hks : (backToKw pos (keywordEach kws X.env)).filterMap (·.1) = ks := by rfl)
    (he : starEach (e :: args) X.env = (false, eval e X.env) :: starEach args X.env := by rfl) (hpl : ((backTo pos (starEach (e :: args) X.env)).any (·.1) || (backToKw pos (keywordEach kws X.env)).any (·.1.isNone)) = false := by rfl) :
    PE X (.Call (.Name x p) (e :: args) kws pos) (liftE c W (rArgs np ks.length n run ix es ra rk)) := by
  refine ⟨fun pins s σ H Q I ⟨ρ, M, θ, P, w, er, o⟩ => ?_⟩
  refine wpAny_Call_Name_kw (ld_glob I hg hm ?_ hdb)
  refine PySem.W.callWith_KW (h₀ := X.base) I.ok.mod.kin hk hall (thn (ha.run pos pins s σ H (fun vs H1 => ∃ ρ M θ P ds, Wo c θ P H1 M ∧ ER c θ P ρ σ ∧ VRL c θ P ds vs ∧ OutE c θ P H1 Q (fun cv dd H' => W cv dd σ H') ((rk ρ M).bind fun zs M2 => rGuard (decide (ds.length = np ∧ zs.length = ks.length ∧ (arr ix ds zs es).length = n)) (run (arr ix ds zs es) M2))) I ⟨ρ, M, θ, P, w, er, Out.bind (R := RL c) o fun ds M1 vs H1 θ1 P1 w1 s1 r1 o1 => ⟨ρ, M1, θ1, P1, ds, w1, er.step s1, r1, o1⟩⟩) fun us s1 ⟨vs, H1, I1, r, q⟩ => ?_) hpl he
  obtain ⟨ρ1, M1, θ1, P1, ds1, w1, er1, r1, o1⟩ := q
  refine thn (hkw.run pos pins s1 σ H1 (fun zs H2 => vs.length = np ∧ zs.length = ks.length ∧ spF c n run (arr ix vs zs dvs) H2 Q E) I1 ⟨ρ1, M1, θ1, P1, w1, er1, Out.bind (R := RL c) o1 fun zd M2 zs H2 θ2 P2 w2 s2 r2 o2 => ?_⟩) fun ws s2 ⟨zs, H2, I2, rz, l1, l2, q2⟩ => ⟨I2.kIn, ?_⟩
  · obtain ⟨g, o2⟩ := Out.guard (R := RV c) o2
    obtain ⟨g1, g2, g3⟩ := of_decide_eq_true g
    exact ⟨by rw [r1.length]; exact g1, by rw [r2.length]; exact g2, sp_now m.we w2 (vrl_arr (r1.step s2) r2 (he0 θ2 P2) ix) g3 o2⟩
  · rw [hks]
    exact call_core m F hr B hd I2 r rz l1 l2 q2
/-- f(x = y, ..) -/
theorem s_callG0 (m : Md X c W E) (F : FnOk X.prog X.w X.K X.mg X.base (L2.CX X.prog X.w) k f fd ps (spF c n run)) (hr : Room k X.A) (hm : X.mg x = some (.ref f)) (hk : PySem.W.keepIn X.K (.ref f) = true) (B : Bnd X.K fd ps 0 ks ix ds) (hd : Vals dvs ds) (he0 : ∀ θ P, VRL c θ P es dvs)
    (hkw : PK X kws (liftA c W rk)) (hg : Gl X x := by rfl) (hdb : (x == ("__debug__" : Str)) = false := by decide) (hall : (backToKw pos (keywordEach kws X.env)).all (·.1.isSome) = true := by rfl) (hks : (backToKw pos (keywordEach kws X.env)).filterMap (·.1) = ks := by rfl)
    (hpl : ((backTo pos (starEach [] X.env)).any (·.1) || (backToKw pos (keywordEach kws X.env)).any (·.1.isNone)) = false := by rfl) :
    PE X (.Call (.Name x p) [] kws pos) (liftE c W (rArgs 0 ks.length n run ix es rNil rk)) := by
  refine ⟨fun pins s σ H Q I ⟨ρ, M, θ, P, w, er, o⟩ => ?_⟩
  refine wpAny_Call_Name_kw (ld_glob I hg hm ?_ hdb)
  refine PySem.W.callWith_KW0 (h₀ := X.base) I.ok.mod.kin hk hall (thn (hkw.run pos pins s σ H (fun zs H2 => zs.length = ks.length ∧ spF c n run (arr ix [] zs dvs) H2 Q E) I ⟨ρ, M, θ, P, w, er, ?_⟩) fun ws s2 ⟨zs, H2, I2, rz, l2, q2⟩ => ⟨I2.kIn, ?_⟩) hpl
  · refine Out.bind (R := RL c) (show OutE c θ P H Q _ ((rk ρ M).bind fun zs M2 => rGuard (decide (0 = 0 ∧ zs.length = ks.length ∧ (arr ix [] zs es).length = n)) (run (arr ix [] zs es) M2)) from o) fun zd M2 zs H2 θ2 P2 w2 s2 r2 o2 => ?_
    obtain ⟨g, o2⟩ := Out.guard (R := RV c) o2
    obtain ⟨g1, g2, g3⟩ := of_decide_eq_true g
    exact ⟨by rw [r2.length]; exact g2, sp_now m.we w2 (vrl_arr (as := []) (vs := []) rfl r2 (he0 θ2 P2) ix) g3 o2⟩
  · rw [hks]
    exact call_core m F hr B hd I2 .nil rz rfl l2 q2
end
end Q

namespace Q
open PySem PySem.Spec PyProof.Rows L2

section
variable {X : Cx} {c : Cl} {W : WX} {E : XK}
theorem s_chain {e1 e2 e3 : Expr} {op op' : CmpOp} {pos : Pos} {a b e : Rn D} {f g : D → D → MS → Res D} {r r' : R2} (ho : OpR X (compareOp op) r) (hf : Op2 c r f) (ho' : OpR X (compareOp op') r') (hg : Op2 c r' g) (ha : PE X e1 (liftE c W a)) (hb : PE X e2 (liftE c W b)) (he : PE X e3 (liftE c W e))
    (hm : lastMarks [op, op'] [e2, e3] = false := by with_unfolding_all rfl) : PE X (.Compare e1 [op, op'] [e2, e3] pos) (liftE c W (rChain f g a b e)) :=
  PE.imp (pe_chain ho ho' ha hb he hm) fun σ H Q h => chain_read hf hg h
theorem t_chain {e1 e2 e3 : Expr} {op op' : CmpOp} {pos : Pos} {a b e : Rn D} {f g : D → D → MS → Res D} {r r' : R2} (ho : OpR X (compareOp op) r) (hf : Op2 c r f) (ho' : OpR X (compareOp op') r') (hg : Op2 c r' g) (ha : PE X e1 (liftE c W a)) (hb : PE X e2 (liftE c W b)) (he : PE X e3 (liftE c W e))
    (hm : lastMarks [op, op'] [e2, e3] = false := by with_unfolding_all rfl) : PT X (.Compare e1 [op, op'] [e2, e3] pos) (liftT c W (rB (rChain f g a b e))) :=
  t_of (pt_chain ho ho' ha hb he hm) fun σ H Q h => chain_read hf hg h

/-! ### isinstance -/
/-- a class: a built-in one, one of the program's -/
inductive Ty where | inl (b : String) | inr (n : Str)
  deriving DecidableEq
def tyN (d : D) (M : MS) : Option Ty := match d with
  | .non => some (.inl "NoneType")
  | .bl _ => some (.inl "bool")
  | .int _ => some (.inl "int")
  | .str _ => some (.inl "str")
  | .tup _ => some (.inl "tuple")
  | .lst _ => some (.inl "list")
  | .scr _ => some (.inl "list")
  | .obj n _ => some (.inr n)
  | .ref l => match M[l]? with
    | some (.lst _) => some (.inl "list")
    | some (.inst n _) => some (.inr n)
    | _ => none
  | _ => none
def tyOfCls : D → Option Ty
  | .ty b => some (.inl b)
  | .cls n => some (.inr n)
  | _ => none
/-- what isinstance says, by a table of all pairs that are asked -/
abbrev IsTab := List ((Ty × Ty) × Bool)
def isOne (tb : IsTab) (t u : Ty) : Option Bool := match t, u with
  | .inl a, .inl b => kitB a b
  | t, u => tb.lookup (t, u)
def valT (c : Cl) : Ty → Option Value
  | .inl b => some (.type b)
  | .inr n => (c.adr n).map .ref
structure IsOk (c : Cl) (tb : IsTab) : Prop where
  one : ∀ t u b, ((t, u), b) ∈ tb → ∃ x y, valT c t = some x ∧ valT c u = some y ∧ PySem.W.kitOne c.K x y = some b
  ins : ∀ t u b n, ((t, u), b) ∈ tb → t = .inr n → ∀ C, c.adr n = some C → ∀ (H : Hp) a dx fs, H a = some (.ins C dx fs) → TyOf c.K H (.ref a) (.ref C)
def isAny (tb : IsTab) (t : Ty) : List Ty → Option Bool
  | [] => some false
  | u :: us => match isOne tb t u with
    | some true => some true
    | some false => isAny tb t us
    | none => none
def tysOf : List D → Option (List Ty)
  | [] => some []
  | d :: ds => match tyOfCls d, tysOf ds with
    | some t, some ts => some (t :: ts)
    | _, _ => none
def isi1 (tb : IsTab) (x y : D) (M : MS) : Res D := match tyN x M, tyOfCls y with
  | some t, some u => match isOne tb t u with
    | some b => .ok (.bl b) M
    | none => .stuck
  | _, _ => .stuck
def isiN (tb : IsTab) (x : D) (cs : List D) (M : MS) : Res D := match tyN x M, tysOf cs with
  | some t, some (u :: us) => match isAny tb t (u :: us) with
    | some b => .ok (.bl b) M
    | none => .stuck
  | _, _ => .stuck
def isi (tb : IsTab) (x y : D) (M : MS) : Res D := match y with
  | .tup cs => isiN tb x cs M
  | y => isi1 tb x y M
def fIsi (tb : IsTab) : Fn := fun ds M => match ds with
  | [x, y] => isi tb x y M
  | _ => .stuck
theorem lookup_mem {α β : Type} [BEq α] [LawfulBEq α] {a : α} {b : β} : ∀ {l : List (α × β)}, l.lookup a = some b → (a, b) ∈ l
  | [], h => by simp at h
  | (x, y) :: l, h => by
    by_cases q : (a == x) = true
    · simp only [List.lookup, q] at h
      cases h
      rw [beq_iff_eq.mp q]
      exact List.mem_cons_self
    · have q' : (a == x) = false := by simpa using q
      simp only [List.lookup, q'] at h
      exact List.mem_cons_of_mem _ (lookup_mem h)
theorem isOne_kit {tb : IsTab} (T : IsOk c tb) {t u : Ty} {b : Bool} (h : isOne tb t u = some b) : ∃ x y, valT c t = some x ∧ valT c u = some y ∧ PySem.W.kitOne c.K x y = some b := by
  cases t with
  | inl a =>
    cases u with
    | inl d => exact ⟨_, _, rfl, rfl, kit_ty h⟩
    | inr d => exact T.one _ _ _ (lookup_mem h)
  | inr a => cases u <;> exact T.one _ _ _ (lookup_mem h)
theorem clsV_of {θ : List Addr} {P : Hp} {d : D} {v : V} {u : Ty} (r : VR c θ P d v) (h : tyOfCls d = some u) : ∃ y, valT c u = some y ∧ ClsV v y := by
  cases d with
  | ty b => cases h; cases r; exact ⟨_, rfl, .ty b⟩
  | cls n => cases h; obtain ⟨a, e, rfl⟩ := r; exact ⟨.ref a, by simp [valT, e], .own a⟩
  | _ => cases h
theorem tyX_of {tb : IsTab} (T : IsOk c tb) {θ : List Addr} {P H : Hp} {M : MS} (w : Wo c θ P H M) {d : D} {v : V} {t u : Ty} {b : Bool} (r : VR c θ P d v) (h : tyN d M = some t) (k : isOne tb t u = some b) : ∃ x, valT c t = some x ∧ TyX c.K H v x := by
  have own : ∀ {n : Str} {C a dx : Addr} {fv : List (Str × V)}, t = .inr n → c.adr n = some C → H a = some (.ins C dx fv) → ∃ x, valT c t = some x ∧ TyX c.K H (.ref a) x := fun {n C a dx fv} e1 e2 e3 => by
    subst e1
    have k' : tb.lookup (.inr n, u) = some b := by cases u <;> exact k
    exact ⟨.ref C, by simp [valT, e2], .base (T.ins _ _ _ n (lookup_mem k') rfl C e2 H a dx fv e3)⟩
  cases d with
  | non => cases h; cases r; exact ⟨_, rfl, .base .non⟩
  | bl b => cases h; cases r; exact ⟨_, rfl, .base (.bl b)⟩
  | int b => cases h; cases r; exact ⟨_, rfl, .base (.int b)⟩
  | str b => cases h; cases r; exact ⟨_, rfl, .base (.str b)⟩
  | tup b =>
    cases h
    obtain ⟨a, vs, rfl, k, q⟩ := r
    rcases k with (k | ⟨o, k⟩) | ⟨o, its, n, k1, k2, _⟩
    · exact ⟨_, rfl, .base (.tup (w.sub _ _ k))⟩
    · exact ⟨_, rfl, .fTuple (w.sub _ _ k)⟩
    · exact ⟨_, rfl, .kTuple k1 k2⟩
  | lst b =>
    cases h
    obtain ⟨a, vs, rfl, k, q⟩ := r
    exact ⟨_, rfl, .base (.lst (w.sub _ _ k))⟩
  | scr b =>
    cases h
    obtain ⟨a, vs, rfl, k, q⟩ := r
    rcases k with (k | ⟨o, k⟩) | ⟨o, its, n, k1, k2, _⟩
    · exact ⟨_, rfl, .base (.lst (w.sub _ _ k))⟩
    · exact ⟨_, rfl, .base (.frz (w.sub _ _ k))⟩
    · exact ⟨_, rfl, .kList k1 k2⟩
  | obj n fs =>
    obtain ⟨a, C, dx, fv, rfl, k1, k2, _⟩ := r
    exact own (by simpa [tyN] using h.symm) k1 (w.sub _ _ k2)
  | ref l =>
    obtain ⟨a, e, rfl⟩ := r
    unfold tyN at h
    cases q : M[l]? with
    | none => simp only [q] at h; cases h
    | some mo =>
      have cell := w.cell l a mo e q
      cases mo with
      | lst ds => simp only [q] at h; cases h; obtain ⟨vs, k1, _⟩ := cell; exact ⟨_, rfl, .base (.lst k1)⟩
      | inst n fs =>
        simp only [q] at h
        obtain ⟨C, dx, fv, k0, k1, _⟩ := cell
        exact own (Option.some.inj h).symm k0 k1
      | dic t kvs => simp only [q] at h; cases h
      | dead => simp only [q] at h; cases h
  | _ => cases h
theorem isAny_kit {tb : IsTab} (T : IsOk c tb) {θ : List Addr} {P : Hp} {t : Ty} {x : Value} (hx : valT c t = some x) : ∀ {us : List Ty} {ds : List D} {vs : List V} {b : Bool}, tysOf ds = some us → VRL c θ P ds vs → isAny tb t us = some b → ∃ ys, Paired ClsV vs ys ∧ PySem.W.kitAny c.K x ys = some b
  | us, [], _, b, h, r, k => by
    cases h
    cases r
    cases k
    exact ⟨[], .nil, kitAny_nil⟩
  | us, d :: ds, _, b, h, ⟨v, q, e, ra, rb⟩, k => by
    subst e
    unfold tysOf at h
    cases z : tyOfCls d with
    | none => rw [z] at h; cases h
    | some u =>
      cases z2 : tysOf ds with
      | none => rw [z, z2] at h; cases h
      | some us' =>
        rw [z, z2] at h
        cases h
        obtain ⟨y, hy, cv⟩ := clsV_of ra z
        unfold isAny at k
        cases z3 : isOne tb t u with
        | none => rw [z3] at k; cases k
        | some b1 =>
          rw [z3] at k
          obtain ⟨x', y', e1, e2, e3⟩ := isOne_kit T z3
          rw [hx] at e1; cases e1
          rw [hy] at e2; cases e2
          cases b1 with
          | true =>
            have hk : some true = some b := k
            cases hk
            obtain ⟨ys, p⟩ : ∃ ys, Paired ClsV q ys := by
              clear k z3 e3
              have all : ∀ {ds : List D} {us : List Ty} {q : List V}, tysOf ds = some us → VRL c θ P ds q → ∃ ys, Paired ClsV q ys := by
                intro ds
                induction ds with
                | nil => intro us q _ r; cases r; exact ⟨[], .nil⟩
                | cons d ds ih =>
                  intro us q h r
                  obtain ⟨v, q', e, ra, rb⟩ := r
                  subst e
                  unfold tysOf at h
                  cases z : tyOfCls d with
                  | none => rw [z] at h; cases h
                  | some u =>
                    cases z2 : tysOf ds with
                    | none => rw [z, z2] at h; cases h
                    | some us' =>
                      obtain ⟨y, _, cv⟩ := clsV_of ra z
                      obtain ⟨ys, p⟩ := ih z2 rb
                      exact ⟨y :: ys, .cons cv p⟩
              exact all z2 rb
            exact ⟨y :: ys, .cons cv p, kitAny_cons e3 (fun z => by cases z) fun _ => rfl⟩
          | false =>
            obtain ⟨ys, p, kk⟩ := isAny_kit T hx z2 rb k
            exact ⟨y :: ys, .cons cv p, kitAny_cons e3 (fun _ => kk) fun z => by cases z⟩
/-- a tuple of classes, wherever it lies -/
def rIsiS (K : PySem.W.Frag) : List V → Hp → VK → Prop := fun vs H Q => ∃ (x : V) (a : Addr) (qs : List V) (t : Value) (ws : List Value) (b : Bool), vs = [x, .ref a] ∧ SqT K H a qs ∧ Paired ClsV qs ws ∧ TyX K H x t ∧ PySem.W.kitAny K t ws = some b ∧ Q (.bl b) H
theorem call_isiS : CallR X (.builtin "isinstance") (rIsiS X.K) := by
  intro pins s σ H vs us Q I r h
  obtain ⟨x, a, qs, t, ws, b, rfl, hT, k, ty, e, q⟩ := h
  obtain ⟨u1, u2, rfl, r1, r2⟩ := vals2 r
  have r2' : u2 = Value.ref a := r2
  subst r2'
  obtain ⟨F, Z, p, hx⟩ := kit_of I r1 ty
  rcases hT with hT | ⟨o, its, n, h1, h2, h3, _, rv⟩
  · obtain ⟨_, its, rv, o, h1, h2, n, h3⟩ := hT.ok I.hok
    have e3 := ClsV.all k rv
    subst e3
    obtain ⟨oc, od, dt, sl⟩ := o
    simp only at h2 h3
    subst h2 h3
    exact PySem.W.kia_tup Z I.kIn p h1 e hx fun y => ⟨.bl b, H, I.tok y, rfl, q⟩
  · have e3 := ClsV.all k rv
    subst e3
    obtain ⟨oc, od, dt, sl⟩ := o
    simp only at h2 h3
    subst h2 h3
    exact PySem.W.kia_tup Z I.kIn p (I.kIn _ _ h1) e hx fun y => ⟨.bl b, H, I.tok y, rfl, q⟩
def rIsiA (K : PySem.W.Frag) : List V → Hp → VK → Prop := fun vs H Q => rIsi K vs H Q ∨ rIsiS K vs H Q
theorem call_isiA : CallR X (.builtin "isinstance") (rIsiA X.K) := CallR.or call_isi call_isiS
theorem isi1_read {tb : IsTab} (T : IsOk c tb) {θ : List Addr} {P H : Hp} {M : MS} {d e : D} {v v' : V} {Q : VK} {Wx : Value → Option Addr → Hp → Prop} (w : Wo c θ P H M) (r1 : VR c θ P d v) (r2 : VR c θ P e v') (o : OutE c θ P H Q Wx (isi1 tb d e M)) : rIsiA c.K [v, v'] H Q := by
  unfold isi1 at o
  cases h1 : tyN d M with
  | none => rw [h1] at o; exact o.elim
  | some t =>
    cases h2 : tyOfCls e with
    | none => rw [h1, h2] at o; exact o.elim
    | some u =>
      rw [h1, h2] at o
      cases h3 : isOne tb t u with
      | none => simp only [h3] at o; exact o.elim
      | some b =>
        simp only [h3] at o
        obtain ⟨x, k1, k2⟩ := tyX_of T w r1 h1 h3
        obtain ⟨y, k3, k4⟩ := clsV_of r2 h2
        obtain ⟨x', y', e1, e2, e3⟩ := isOne_kit T h3
        rw [k1] at e1; cases e1
        rw [k3] at e2; cases e2
        exact .inl ⟨v, v', x, y, b, rfl, k4, k2, e3, Out.now (R := RV c) w o rfl⟩
theorem isiN_read {tb : IsTab} (T : IsOk c tb) {θ : List Addr} {P H : Hp} {M : MS} {d : D} {cs : List D} {v v' : V} {Q : VK} {Wx : Value → Option Addr → Hp → Prop} (w : Wo c θ P H M) (r1 : VR c θ P d v) (r2 : VR c θ P (.tup cs) v') (o : OutE c θ P H Q Wx (isiN tb d cs M)) : rIsiA c.K [v, v'] H Q := by
  unfold isiN at o
  obtain ⟨a, qs, rfl, hq, rq⟩ := tup_read w r2
  cases h1 : tyN d M with
  | none => rw [h1] at o; exact o.elim
  | some t =>
    cases h2 : tysOf cs with
    | none => rw [h1, h2] at o; exact o.elim
    | some us =>
      cases us with
      | nil => rw [h1, h2] at o; exact o.elim
      | cons u us =>
        rw [h1, h2] at o
        cases h3 : isAny tb t (u :: us) with
        | none => simp only [h3] at o; exact o.elim
        | some b =>
          simp only [h3] at o
          obtain ⟨b1, hb1⟩ : ∃ b1, isOne tb t u = some b1 := by
            unfold isAny at h3
            cases z : isOne tb t u with
            | none => rw [z] at h3; cases h3
            | some b1 => exact ⟨b1, rfl⟩
          obtain ⟨x, k1, k2⟩ := tyX_of T w r1 h1 hb1
          obtain ⟨ys, p1, p2⟩ := isAny_kit T k1 h2 rq h3
          exact .inr ⟨v, a, qs, x, ys, b, rfl, hq, p1, k2, p2, Out.now (R := RV c) w o rfl⟩
theorem c_isi {tb : IsTab} (T : IsOk c tb) : CallD c (rIsiA c.K) (fIsi tb) := fun θ P H M ds vs Q Wx w r o => by
  cases ds with
  | nil => exact o.elim
  | cons d ds =>
    cases ds with
    | nil => exact o.elim
    | cons e ds =>
      cases ds with
      | cons _ _ => exact o.elim
      | nil =>
        obtain ⟨v, v', rfl, r1, r2⟩ := r.inv2
        have o' : OutE c θ P H Q Wx (isi tb d e M) := o
        cases e with
        | tup cs => exact isiN_read T w r1 r2 o'
        | _ => exact isi1_read T w r1 r2 o'
end
end Q

namespace Q
open PySem PySem.Spec PyProof.Rows L2

section
variable {X : Cx} {c : Cl} {W : WX} {E : XK} {elt tg iter : Expr} {ifs : List Expr} {scope : Scope} {own : List (Str × Nat)} {pos spos py : Pos} {g : TG} {gs : List Nat} {bd : D → Ev → Option Ev} {it : Rn (List D)} {t : Rn Bool} {e : Rn D} {i : Nat} {y : Str}
theorem s_lc (h : PE X (.ListComp elt [⟨tg, iter, ifs, 0⟩] scope pos) (tLc (liftI c W it) g (liftT c W0 t) (liftE c W0 e) (own.map (·.2)))) (ok : TgOk c g gs bd) (hsub : ∀ i ∈ gs, i ∈ own.map (·.2) := by decide) : PE X (.ListComp elt [⟨tg, iter, ifs, 0⟩] scope pos) (liftE c W (rLc it (own.map (·.2)) bd t e)) :=
  PE.imp h fun σ H Q q => lc_keep ok hsub q
theorem s_lcM (h : PE X (.ListComp elt [⟨tg, iter, ifs, 0⟩] scope pos) (tLc (liftI c W it) g (liftT c W0 t) (liftE c W0 e) (own.map (·.2)))) (ok : TgOk c g gs bd) (hsub : ∀ i ∈ gs, i ∈ own.map (·.2) := by decide) : PE X (.ListComp elt [⟨tg, iter, ifs, 0⟩] scope pos) (liftE c W (rLcM it (own.map (·.2)) bd t e)) :=
  PE.imp h fun σ H Q q => lc_keepM ok hsub q
theorem st_setLc (h : PS X (.Assign [.Name y py] (.ListComp elt [⟨tg, iter, ifs, 0⟩] scope pos) spos) (tAsg (tLc (liftI c W it) g (liftT c W0 t) (liftE c W0 e) (own.map (·.2))) (gName i))) (ok : TgOk c g gs bd) (hsub : ∀ i ∈ gs, i ∈ own.map (·.2) := by decide) :
    PS X (.Assign [.Name y py] (.ListComp elt [⟨tg, iter, ifs, 0⟩] scope pos) spos) (liftS c W (rAsg (rLc it (own.map (·.2)) bd t e) (bName i))) :=
  PS.imp h fun E σ H q => asg_run tg_name q fun _ z => lc_keep ok hsub z
theorem st_setLcM (h : PS X (.Assign [.Name y py] (.ListComp elt [⟨tg, iter, ifs, 0⟩] scope pos) spos) (tAsg (tLc (liftI c W it) g (liftT c W0 t) (liftE c W0 e) (own.map (·.2))) (gName i))) (ok : TgOk c g gs bd) (hsub : ∀ i ∈ gs, i ∈ own.map (·.2) := by decide) :
    PS X (.Assign [.Name y py] (.ListComp elt [⟨tg, iter, ifs, 0⟩] scope pos) spos) (liftS c W (rAsg (rLcM it (own.map (·.2)) bd t e) (bName i))) :=
  PS.imp h fun E σ H q => asg_run tg_name q fun _ z => lc_keepM ok hsub z
/-- no test, one test -/
theorem ts_nil : PTs X [] (liftT c W rTrue) := ⟨fun pins s σ H Q I ⟨ρ, M, θ, P, w, er, o⟩ => pts_nil.run pins s σ H Q I (Out.now (R := RB) w o rfl)⟩
end
end Q

namespace Q
open PySem PySem.Spec PyProof.Rows L2

/-! ### what the head tells -/
structure Kn (fa : List He.Fa) (fn : List He.DefD) (c : Cl) (mg : Str → Option Value) : Prop where
  fact : ∀ (i : Nat) (f : He.Fa), fa[i]? = some f → f.ok c.K = true
  defd : ∀ (i : Nat) (d : He.DefD), fn[i]? = some d → ∃ fd, FunD c.K d.name d.qual d.params d.body d.scope (d.dvs c.K) (d.kws c.K) (He.fAd c.K d.at_) fd
  home : ∃ h : Heap, c.K.In h ∧ h.Ns mainGlobals mg
section
variable {fa : List He.Fa} {fn : List He.DefD} {c : Cl} {mg : Str → Option Value}
theorem Kn.glo (S : Kn fa fn c mg) (i : Nat) {x : Str} (h : fa[i]? = some (.glo x) := by rfl) : mg x = some (.ref (He.ga c.K x)) := by
  obtain ⟨hp, X, G⟩ := S.home
  exact He.glo_ok X G (S.fact i _ h)
theorem Kn.free (S : Kn fa fn c mg) (i : Nat) {x : Str} (h : fa[i]? = some (.free x) := by rfl) : mg x = none := by
  obtain ⟨hp, X, G⟩ := S.home
  exact He.free_ok X G (S.fact i _ h)
theorem Kn.int (S : Kn fa fn c mg) (i : Nat) {x : Str} {z : Int} (h : fa[i]? = some (.int x z) := by rfl) : ∃ t, mg x = some (.int z t) := by
  obtain ⟨hp, X, G⟩ := S.home
  exact He.int_ok X G (S.fact i _ h)
theorem Kn.str (S : Kn fa fn c mg) (i : Nat) {x z : Str} (h : fa[i]? = some (.str x z) := by rfl) : ∃ t, mg x = some (.str z t) := by
  obtain ⟨hp, X, G⟩ := S.home
  exact He.str_ok X G (S.fact i _ h)
end
/-- a def as its callers know it -/
structure Df (P : Program) (w : World) (c : Cl) (mg : Str → Option Value) (base : Heap) (d : He.DefD) (k : Nat) (ps : List Str) (run : Fn) : Prop where
  ex : ∃ fd, FnOk P w c.K mg base (L2.CX P w) k (He.fAd c.K d.at_) fd ps (spF c ps.length run) ∧ FunD c.K d.name d.qual d.params d.body d.scope (d.dvs c.K) (d.kws c.K) (He.fAd c.K d.at_) fd
section
variable {P : Program} {w : World} {c : Cl} {mg : Str → Option Value} {base : Heap} {d : He.DefD} {k : Nat} {ps : List Str} {run : Fn}
theorem Df.never {fa : List He.Fa} {fn : List He.DefD} (S : Kn fa fn c mg) (i : Nat) (h : fn[i]? = some d := by rfl) : Df P w c mg base d k ps (fun _ _ => .stuck) := by
  obtain ⟨fd, F⟩ := S.defd i d h
  exact ⟨fd, fn_never, F⟩
end
section
variable {K : PySem.W.Frag} {x qual : Str} {params : Arguments} {body : List Stmt} {scope : Scope} {dvs : List V} {f : Addr} {fd : FuncData} {ps ks : List Str} {ix : List Ar} {np : Nat}
theorem bnd_no (F : FunD K x qual params body scope [] [] f fd)
    (h : ∀ (kV doc pm : Value) (an : Option Addr) (cdv ct : Value) (us ws : List Value), us.length = np → ws.length = ks.length → bindArgs (PySem.W.fnOf x qual params body scope .none kV doc pm an cdv ct) ⟨us, ks.zip ws⟩ = pure (ps.zip (arr ix us ws []))) : Bnd K fd ps np ks ix [] := by
  obtain ⟨oc, od, dV, kV, doc, pm, an, cdv, ct, osl, rfl, lk, hcd, hD, hK⟩ := F.ex
  rcases hD with ⟨_, rfl⟩ | ⟨e, _⟩
  · exact ⟨fun s us ws _ l1 l2 => .of_eq (h kV doc pm an cdv ct us ws l1 l2)⟩
  · exact absurd rfl e
end
section
variable {X : Cx} {c : Cl} {W : WX} {E : XK} {k : Nat} {d : He.DefD} {ps ks : List Str} {ix : List Ar} {run : Fn} {x : Str} {p pos : Pos} {e : Expr} {es : List Expr} {kws : List Keyword} {ra rk : Rn (List D)}
/-- f(e, ..), every parameter given by place -/
theorem s_cD (m : Md X c W E) (F : Df X.prog X.w c X.mg X.base d k ps run) (hr : Room k X.A) (hm : X.mg x = some (.ref (He.fAd c.K d.at_))) (hd : d.dfl = []) (hk : d.kwd = [])
    (hb : ∀ (kV doc pm : Value) (an : Option Addr) (cdv ct : Value) (us : List Value), us.length = ps.length → bindArgs (PySem.W.fnOf d.name d.qual d.params d.body d.scope .none kV doc pm an cdv ct) ⟨us, []⟩ = pure (ps.zip us)) (ha : PA X (e :: es) (liftA c W ra))
    (hg : Gl X x := by rfl) (hdb : (x == ("__debug__" : Str)) = false := by decide) (he : starEach (e :: es) X.env = (false, eval e X.env) :: starEach es X.env := by rfl) (hpl : (backTo pos (starEach es X.env)).any (·.1) = false := by rfl) :
    PE X (.Call (.Name x p) (e :: es) [] pos) (liftE c W (rCall ps.length run [] ra)) := by
  obtain ⟨fd, h1, h2⟩ := F.ex
  have e1 : d.dvs c.K = [] := by unfold He.DefD.dvs; rw [hd]; rfl
  have e2 : d.kws c.K = [] := by unfold He.DefD.kws; rw [hk]; rfl
  rw [e1, e2] at h2
  rw [m.k] at h1 h2 hm
  exact s_call m h1 hr hm h2.kp (h2.bindsN hb) ha hg hdb he hpl
theorem s_cD0 (m : Md X c W E) (F : Df X.prog X.w c X.mg X.base d k [] run) (hr : Room k X.A) (hm : X.mg x = some (.ref (He.fAd c.K d.at_))) (hd : d.dfl = []) (hk : d.kwd = [])
    (hb : ∀ (kV doc pm : Value) (an : Option Addr) (cdv ct : Value) (us : List Value), us.length = 0 → bindArgs (PySem.W.fnOf d.name d.qual d.params d.body d.scope .none kV doc pm an cdv ct) ⟨us, []⟩ = pure (([] : List Str).zip us))
    (hg : Gl X x := by rfl) (hdb : (x == ("__debug__" : Str)) = false := by decide) :
    PE X (.Call (.Name x p) [] [] pos) (liftE c W (rCall 0 run [] rNil)) := by
  obtain ⟨fd, h1, h2⟩ := F.ex
  have e1 : d.dvs c.K = [] := by unfold He.DefD.dvs; rw [hd]; rfl
  have e2 : d.kws c.K = [] := by unfold He.DefD.kws; rw [hk]; rfl
  rw [e1, e2] at h2
  rw [m.k] at h1 h2 hm
  exact s_call0 (n := 0) m h1 hr hm h2.kp (h2.bindsN hb) hg hdb
/-- f(e, .., k = ..), no defaults used -/
theorem s_cK (m : Md X c W E) (F : Df X.prog X.w c X.mg X.base d k ps run) (hr : Room k X.A) (hm : X.mg x = some (.ref (He.fAd c.K d.at_))) (hd : d.dfl = []) (hk : d.kwd = [])
    (hb : ∀ (kV doc pm : Value) (an : Option Addr) (cdv ct : Value) (us ws : List Value), us.length = (e :: es).length → ws.length = ks.length → bindArgs (PySem.W.fnOf d.name d.qual d.params d.body d.scope .none kV doc pm an cdv ct) ⟨us, ks.zip ws⟩ = pure (ps.zip (arr ix us ws []))) (ha : PA X (e :: es) (liftA c W ra)) (hkw : PK X kws (liftA c W rk))
    (hg : Gl X x := by rfl) (hdb : (x == ("__debug__" : Str)) = false := by decide) (hall : (backToKw pos (keywordEach kws X.env)).all (·.1.isSome) = true := by rfl) (hks : (backToKw pos (keywordEach kws X.env)).filterMap (·.1) = ks := by rfl)
    (he : starEach (e :: es) X.env = (false, eval e X.env) :: starEach es X.env := by rfl) (hpl : ((backTo pos (starEach (e :: es) X.env)).any (·.1) || (backToKw pos (keywordEach kws X.env)).any (·.1.isNone)) = false := by rfl) :
    PE X (.Call (.Name x p) (e :: es) kws pos) (liftE c W (rArgs (e :: es).length ks.length ps.length run ix [] ra rk)) := by
  obtain ⟨fd, h1, h2⟩ := F.ex
  have e1 : d.dvs c.K = [] := by unfold He.DefD.dvs; rw [hd]; rfl
  have e2 : d.kws c.K = [] := by unfold He.DefD.kws; rw [hk]; rfl
  rw [e1, e2] at h2
  rw [m.k] at h1 h2 hm
  exact s_callG m h1 hr hm h2.kp (bnd_no h2 hb) .nil (fun _ _ => rfl) ha hkw hg hdb hall hks he hpl
theorem s_cK0 (m : Md X c W E) (F : Df X.prog X.w c X.mg X.base d k ps run) (hr : Room k X.A) (hm : X.mg x = some (.ref (He.fAd c.K d.at_))) (hd : d.dfl = []) (hk : d.kwd = [])
    (hb : ∀ (kV doc pm : Value) (an : Option Addr) (cdv ct : Value) (us ws : List Value), us.length = 0 → ws.length = ks.length → bindArgs (PySem.W.fnOf d.name d.qual d.params d.body d.scope .none kV doc pm an cdv ct) ⟨us, ks.zip ws⟩ = pure (ps.zip (arr ix us ws []))) (hkw : PK X kws (liftA c W rk))
    (hg : Gl X x := by rfl) (hdb : (x == ("__debug__" : Str)) = false := by decide) (hall : (backToKw pos (keywordEach kws X.env)).all (·.1.isSome) = true := by rfl) (hks : (backToKw pos (keywordEach kws X.env)).filterMap (·.1) = ks := by rfl)
    (hpl : ((backTo pos (starEach [] X.env)).any (·.1) || (backToKw pos (keywordEach kws X.env)).any (·.1.isNone)) = false := by rfl) :
    PE X (.Call (.Name x p) [] kws pos) (liftE c W (rArgs 0 ks.length ps.length run ix [] rNil rk)) := by
  obtain ⟨fd, h1, h2⟩ := F.ex
  have e1 : d.dvs c.K = [] := by unfold He.DefD.dvs; rw [hd]; rfl
  have e2 : d.kws c.K = [] := by unfold He.DefD.kws; rw [hk]; rfl
  rw [e1, e2] at h2
  rw [m.k] at h1 h2 hm
  exact s_callG0 m h1 hr hm h2.kp (bnd_no h2 hb) .nil (fun _ _ => rfl) hkw hg hdb hall hks hpl
/-- the module's constants -/
theorem s_gint {z : Int} (hm : ∃ t, X.mg x = some (.int z t)) (hg : Gl X x := by rfl) (hd : (x == ("__debug__" : Str)) = false := by decide) : PE X (.Name x p) (liftE c W (rC (.int z))) := by
  obtain ⟨t, e⟩ := hm
  exact s_const (v := .int z) (pe_glob hg e ⟨t, rfl⟩ hd) fun _ _ => rfl
theorem s_gstr {z : Str} (hm : ∃ t, X.mg x = some (.str z t)) (hg : Gl X x := by rfl) (hd : (x == ("__debug__" : Str)) = false := by decide) : PE X (.Name x p) (liftE c W (rC (.str z))) := by
  obtain ⟨t, e⟩ := hm
  exact s_const (v := .str z) (pe_glob hg e ⟨t, rfl⟩ hd) fun _ _ => rfl
/-- a built-in class as a value -/
theorem s_ty {n : String} (hm : X.mg x = none) (hv : bootBuiltins x = some (.type n)) (hg : Gl X x := by rfl) (hn : x ≠ "__name__" := by decide) (hd : (x == ("__debug__" : Str)) = false := by decide) : PE X (.Name x p) (liftE c W (rC (.ty n))) :=
  s_const (v := .ty n) (pe_bltn hg hm hv rfl hn hd) fun _ _ => rfl
/-- a class of the program as a value -/
theorem s_cls {n : Str} {a : Addr} (hm : X.mg x = some (.ref a)) (hc : c.adr n = some a) (hg : Gl X x := by rfl) (hd : (x == ("__debug__" : Str)) = false := by decide) : PE X (.Name x p) (liftE c W (rC (.cls n))) :=
  s_const (v := .ref a) (pe_glob hg hm rfl hd) fun _ _ => ⟨a, hc, rfl⟩
end
/-! ### the law's end, the exceptions by the world -/
theorem law_end {l : PySem.W.OpenLaw} {n k : Nat} {q : Program} {loose : List Str} {XQ : (Str → Option Value) → Heap → Prop} {YQ : World → Heap → Prop} {d : DefRec} {x : Str} (hn : l.most = some n) (hn2 : n ≤ sizeLine) (hdf : d.params.defaults = []) (hr : Room k callerA)
    (go : ∀ (w : World) (mg : Str → Option Value) (fa : Addr) (h : Heap), YQ w h → h.Ns mainGlobals mg → mg d.name = some (.ref fa) → ∃ (c : Cl) (fd : FuncData) (run : Fn), c.tabs = [] ∧ c.K.In h ∧ (∀ (s : Shared) (u : Value), BindsTo s fd ⟨[u], []⟩ [(x, u)]) ∧
      (∀ ns : List Int, ns.length ≤ n → ∃ M', run [.scr (ns.map D.int)] [] = .ok (.bl true) M') ∧ ∀ base : Heap, c.K.In base → base.Ns mainGlobals mg → FnOk l.prog w c.K mg base (L2.CX l.prog w) k fa fd [x] (spF c 1 run)) :
    PySem.W.WalkO q loose XQ YQ l.row.toRowW d [] (fun f vs => PySem.call f vs) := by
  refine Att.attach_call hn hdf fun w s₀ s₁ mg mb fa o pm cd doc a vs ns G Y ho hd hcd hmg hobj hints hlen hg => ?_
  obtain ⟨c, fd, run, hc, KX, hb, hp, hF⟩ := go w mg fa _ Y G.T.g hmg
  exact law_call (sp := spF c 1 run) KX G.T.g G.T.b G.T.builtins G.T.nolimit hg hobj hints (Nat.le_trans hlen hn2) hr hF hb (fun H _ hS => law_sp (by rw [hc]; exact fun _ m => absurd m (by simp)) hS (hp ns hlen)) fun H e s' => cx_end
/-- one function object -/
theorem funD_one {K : PySem.W.Frag} {x x' qual qual' : Str} {ps ps' : Arguments} {b b' : List Stmt} {sc sc' : Scope} {dv dv' : List V} {kw kw' : List (Str × V)} {f : Addr} {fd fd' : FuncData} (h : FunD K x qual ps b sc dv kw f fd) (h' : FunD K x' qual' ps' b' sc' dv' kw' f fd') : fd = fd' := by
  obtain ⟨oc, od, dV, kV, doc, pm, an, cdv, ct, osl, e3, lk3, _⟩ := h.ex
  obtain ⟨oc', od', dV', kV', doc', pm', an', cdv', ct', osl', e4, lk4, _⟩ := h'.ex
  have := lk3.symm.trans lk4
  simp only [Option.some.injEq, Obj.mk.injEq, Data.func.injEq] at this
  exact this.2.2.1
end Q

namespace Q
open PySem
/-! ### plain laws of the readings -/
theorem trim_same {M M' : MS} {d : D} (h : M'.length = M.length) : trim M (.ok d M') = .ok d M' := by
  show (if M'.length = M.length then Res.ok d M' else _) = _
  rw [if_pos h]
theorem trim_same' {M : MS} {d : D} : trim M (.ok d M) = .ok d M := trim_same rfl
theorem loopC_all {ρ : Ev} {bd : D → Ev → Option Ev} {t : Rn Bool} {e : Rn D} (I : MS → Prop) (R : D → Prop) : ∀ (ds : List D) (M : MS), I M → (∀ d ∈ ds, ∀ M, I M → ∃ ρ' y M', bd d ρ = some ρ' ∧ t ρ' M = .ok true M ∧ e ρ' M = .ok y M' ∧ I M' ∧ R y) → ∃ ys M', loopC ρ bd t e ds M = .ok ys M' ∧ I M' ∧ ys.length = ds.length ∧ ∀ y ∈ ys, R y
  | [], M, hI, _ => ⟨[], M, rfl, hI, rfl, fun _ m => nomatch m⟩
  | d :: ds, M, hI, h => by
    obtain ⟨ρ', y, M1, h1, h2, h3, h4, h5⟩ := h d List.mem_cons_self M hI
    obtain ⟨ys, M2, k1, k2, k3, k4⟩ := loopC_all I R ds M1 h4 fun d' m => h d' (List.mem_cons_of_mem _ m)
    refine ⟨y :: ys, M2, by simp only [loopC, h1, h2, h3, calmly, Res.bind, if_true, k1], k2, by simp [k3], fun z m => ?_⟩
    rcases List.mem_cons.mp m with rfl | m
    · exact h5
    · exact k4 z m
/-- the element a function of the item, the store untouched -/
theorem loopC_map {ρ : Ev} {bd : D → Ev → Option Ev} {e : Rn D} {M : MS} (f : D → D) : ∀ ds : List D, (∀ d ∈ ds, ∃ ρ', bd d ρ = some ρ' ∧ e ρ' M = .ok (f d) M) → loopC ρ bd rTrue e ds M = .ok (ds.map f) M
  | [], _ => rfl
  | d :: ds, h => by
    obtain ⟨ρ', h1, h2⟩ := h d List.mem_cons_self
    have ih := loopC_map f ds fun d' m => h d' (List.mem_cons_of_mem _ m)
    simp only [loopC, h1, rTrue, h2, calmly, Res.bind, if_true, ih, List.map_cons]
theorem loopF_all {bd : D → Ev → Option Ev} {body : Sn} (J : Ev → MS → Prop) : ∀ (ds : List D) (ρ : Ev) (M : MS), J ρ M → (∀ d ∈ ds, ∀ ρ M, J ρ M → ∃ ρ', bd d ρ = some ρ' ∧ ∃ ρ2 M2, body ρ' M = .nx ρ2 M2 ∧ J ρ2 M2) → ∃ ρ' M', loopF bd body ds ρ M = .nx ρ' M' ∧ J ρ' M'
  | [], ρ, M, hJ, _ => ⟨ρ, M, rfl, hJ⟩
  | d :: ds, ρ, M, hJ, h => by
    obtain ⟨ρ', h1, ρ2, M2, h2, h3⟩ := h d List.mem_cons_self ρ M hJ
    obtain ⟨ρ3, M3, k1, k2⟩ := loopF_all J ds ρ2 M2 h3 fun d' m => h d' (List.mem_cons_of_mem _ m)
    exact ⟨ρ3, M3, by simp only [loopF, h1, h2, k1], k2⟩
theorem opMod_pos {i j : Int} {M : MS} (h : 0 < j) : opMod (.int i) (.int j) M = .ok (.int (i % j)) M := by
  simp only [opMod, rGuard, h, decide_true, if_true]
theorem opDiv_pos {i j : Int} {M : MS} (h : 0 < j) (h2 : j < 1073741824) : opDiv (.int i) (.int j) M = .ok (.int (i / j)) M := by
  simp only [opDiv, rGuard, h, h2, and_self, decide_true, if_true]
theorem opMul_r {i j : Int} {M : MS} (h : low64 j = true) : opMul (.int i) (.int j) M = .ok (.int (i * j)) M := by
  simp only [opMul, rGuard, h, Bool.or_true, if_true]
theorem opMul_l {i j : Int} {M : MS} (h : low64 i = true) : opMul (.int i) (.int j) M = .ok (.int (i * j)) M := by
  simp only [opMul, rGuard, h, Bool.true_or, if_true]
theorem cut_head {α : Type} {l : List α} {n : Nat} (h : l.length ≤ n) : cutD l none (some (n : Int)) = l := by
  unfold cutD
  have e1 : HT.sIx l.length 0 none = 0 := rfl
  have e2 : HT.sIx l.length l.length (some (n : Int)) = l.length := by
    unfold HT.sIx
    simp only
    rw [if_neg (by omega)]
    simp [h]
  rw [e1, e2]
  simp
end Q
namespace Q
open PySem
theorem bools_map {α : Type} (g : α → Bool) : ∀ l : List α, boolsOf (l.map fun x => D.bl (g x)) = some (l.map g)
  | [] => rfl
  | a :: l => by
    have ih := bools_map g l
    simp only [List.map_cons, boolsOf, ih]
    rfl
theorem lstOf_lst {ds : List D} {M : MS} : lstOf (.lst ds) M = some ds := rfl
def letterIn (z : Str) : D → D
  | .str ⟨a⟩ => match a.toList with
    | [k] => .bl (decide (k ∈ z.cps.toList))
    | _ => .non
  | _ => .non
theorem letters_map (z s : Str) : (chars s).map (letterIn z) = s.cps.toList.map fun k => D.bl (decide (k ∈ z.cps.toList)) := by
  unfold chars
  rw [List.map_map]
  rfl
theorem chars_len (s : Str) : (chars s).length = s.length := by
  unfold chars
  simp [Str.length]
theorem kb1 : L2.kitB "str" "str" = some true := by decide +kernel
theorem kb2 : L2.kitB "int" "str" = some false := by decide +kernel
theorem kb3 : L2.kitB "NoneType" "str" = some false := by decide +kernel
theorem kb4 : L2.kitB "bool" "str" = some false := by decide +kernel
theorem kb5 : L2.kitB "tuple" "str" = some false := by decide +kernel
theorem kb6 : L2.kitB "list" "str" = some false := by decide +kernel
theorem kb7 : L2.kitB "bool" "bool" = some true := by decide +kernel
theorem isi_str {tb : IsTab} {d : D} {n : String} {b : Bool} {M : MS} (h : tyN d M = some (.inl n)) {m : String} (hb : L2.kitB n m = some b) : fIsi tb [d, .ty m] M = .ok (.bl b) M := by
  show isi1 tb d (.ty m) M = _
  unfold isi1
  rw [h]
  show (match isOne tb (.inl n) (.inl m) with
    | some b => Res.ok (D.bl b) M
    | none => .stuck) = _
  show (match L2.kitB n m with
    | some b => Res.ok (D.bl b) M
    | none => .stuck) = _
  rw [hb]
end Q

namespace Q
open PySem PySem.Spec PyProof.Rows L2

/-! ### instances -/
def insOf (d : D) (M : MS) : Option (Str × List (Str × D)) := match d with
  | .obj n fs => some (n, fs)
  | .ref l => match M[l]? with
    | some (.inst n fs) => some (n, fs)
    | _ => none
  | _ => none
section
variable {X : Cx} {c : Cl} {W : WX} {E : XK} {e o value : Expr} {f m : Str} {pos pos' p : Pos} {a ro : Rn D}
theorem ins_read {θ : List Addr} {P H : Hp} {M : MS} (w : Wo c θ P H M) {d : D} {v : V} {n : Str} {fs : List (Str × D)} (r : VR c θ P d v) (h : insOf d M = some (n, fs)) : ∃ a C dx fv, v = .ref a ∧ c.adr n = some C ∧ H a = some (.ins C dx fv) ∧ VRF c θ P fs fv := by
  cases d with
  | obj n' fs' =>
    cases h
    obtain ⟨a, C, dx, fv, rfl, k0, k1, k2⟩ := r
    exact ⟨a, C, dx, fv, rfl, k0, w.sub _ _ k1, k2⟩
  | ref l =>
    obtain ⟨a, e, rfl⟩ := r
    unfold insOf at h
    cases q : M[l]? with
    | none => simp only [q] at h; cases h
    | some mo =>
      have cell := w.cell l a mo e q
      cases mo with
      | lst ds => simp only [q] at h; cases h
      | dic t kvs => simp only [q] at h; cases h
      | dead => simp only [q] at h; cases h
      | inst n' fs' =>
        simp only [q] at h
        cases h
        obtain ⟨C, dx, fv, k0, k1, k2⟩ := cell
        exact ⟨a, C, dx, fv, rfl, k0, k1, k2⟩
  | _ => cases h
/-- a function of one value -/
def rU (g : D → MS → Res D) (a : Rn D) : Rn D := fun ρ M => (a ρ M).bind g
/-- what the classes ns have: nothing of the name f -/
def FldOk (c : Cl) (ns : List Str) (f : Str) : Prop := ∀ n ∈ ns, ∀ C, c.adr n = some C → Cls c.K C ∧ NoAttr c.K C f
def opFld (ns : List Str) (f : Str) (d : D) (M : MS) : Res D := match insOf d M with
  | some (n, fs) => rGuard (ns.contains n) (match fs.lookup f with
    | some x => .ok x M
    | none => .stuck)
  | none => .stuck
theorem s_fld {ns : List Str} (hK : c.K = X.K) (T : FldOk c ns f) (h : PE X e (liftE c W a)) (hb : attributeBase e f X.env (eval e X.env) = eval e X.env := by rfl) : PE X (.Attribute e f pos) (liftE c W (rU (opFld ns f) a)) :=
  PE.imp (pe_fld h hb) fun σ H Q ⟨ρ, M, θ, P, w, er, o⟩ => ⟨ρ, M, θ, P, w, er, Out.bind (R := RV c) o fun d M1 v H1 θ1 P1 w1 s1 r1 o1 => by
    unfold opFld at o1
    cases q : insOf d M1 with
    | none => rw [q] at o1; exact o1.elim
    | some nf =>
      obtain ⟨n, fs⟩ := nf
      rw [q] at o1
      obtain ⟨g, o1⟩ := Out.guard (R := RV c) o1
      obtain ⟨b, C, dx, fv, rfl, k0, k1, k2⟩ := ins_read w1 r1 q
      obtain ⟨k3, k4⟩ := T n (List.contains_iff_mem.mp g) C k0
      cases q2 : fs.lookup f with
      | none => simp only [q2] at o1; exact o1.elim
      | some x =>
        simp only [q2] at o1
        obtain ⟨v, l, rv⟩ := (VRF.lookup k2).2 x q2
        rw [← hK]
        exact ⟨b, C, dx, fv, v, rfl, k1, k3, k4, l, Out.now (R := RV c) w1 o1 rv⟩⟩
/-- o.f = e, of a changeable instance -/
def rSetF (ns : List Str) (f : Str) (v o : Rn D) : Sn := fun ρ M => bindS (v ρ M) ρ fun y M1 => bindS (o ρ M1) ρ fun d M2 => match d with
  | .ref l => match M2[l]? with
    | some (.inst n fs) => if (ns.contains n && decide (fs.length < 1000)) = true then .nx ρ (M2.set l (.inst n (putD f y fs))) else .stuck
    | _ => .stuck
  | _ => .stuck
theorem st_setF {ns : List Str} {rv : Rn D} (hK : c.K = X.K) (T : FldOk c ns f) (ho : PE X o (liftE c W ro)) (hv : PE X value (liftE c W rv)) (hs : swapsWith value (some (.Attribute o f pos')) pos.line X.env = pure false := by rfl) :
    PS X (.Assign [.Attribute o f pos'] value pos) (liftS c W (rSetF ns f rv ro)) :=
  PS.imp (ps_fld ho hv hs) fun E σ H ⟨ρ, M, θ, P, w, er, o⟩ => ⟨ρ, M, θ, P, w, er, OutS.bind (R := RV c) er o fun y M1 v H1 θ1 P1 w1 s1 r1 er1 o1 => ⟨ρ, M1, θ1, P1, w1, er1, OutS.bind (R := RV c) er1 o1 fun d M2 x H2 θ2 P2 w2 s2 r2 er2 o2 => by
    cases d with
    | ref l =>
      obtain ⟨b, e, rfl⟩ := r2
      cases q : M2[l]? with
      | none => simp only [q] at o2; exact o2.elim
      | some mo =>
        cases mo with
        | lst ds => simp only [q] at o2; exact o2.elim
        | dic t kvs => simp only [q] at o2; exact o2.elim
        | dead => simp only [q] at o2; exact o2.elim
        | inst n fs =>
          simp only [q] at o2
          by_cases g : (ns.contains n && decide (fs.length < 1000)) = true
          · rw [if_pos g] at o2
            obtain ⟨g1, g2⟩ := Bool.and_eq_true_iff.mp g
            obtain ⟨C, dx, fv, k0, k1, k2⟩ := w2.cell l b _ e q
            obtain ⟨k3, k4⟩ := T n (List.contains_iff_mem.mp g1) C k0
            have hl : fv.length < 1000 := by rw [VRF.length k2]; exact of_decide_eq_true g2
            obtain ⟨w3, s3⟩ := w2.setM (o := .ins C dx (putF f v fv)) (mo' := .inst n (putD f y fs)) e q (by simp) ⟨C, dx, _, k0, upd_same, VRF.put (r1.step s2) k2⟩
            rw [← hK]
            exact ⟨b, C, dx, fv, rfl, k1, k3, k4, hl, o2 σ _ _ _ w3 s3 (er2.step s3)⟩
          · rw [if_neg g] at o2
            exact o2.elim
    | _ => exact o2.elim⟩⟩
/-! ### methods -/
/-- the class n's method m: its def, np arguments behind the object -/
structure MtOk (X : Cx) (c : Cl) (m : Str) (np : Nat) (n : Str) (run : Fn) : Prop where
  go : ∀ C, c.adr n = some C → Cls X.K C ∧ ∃ (f : Addr) (fd : FuncData) (ps : List Str) (k : Nat), Meth X.K C m f ∧ FnOk X.prog X.w X.K X.mg X.base (L2.CX X.prog X.w) k f fd ps (spF c (np + 1) run) ∧ Room k X.A ∧ Binds X.K fd ps []
def rMeth (T : List (Str × Fn)) (m : Str) (np : Nat) (o : Rn D) (a : Rn (List D)) : Rn D := fun ρ M => (o ρ M).bind fun d M1 => match insOf d M1 with
  | some (n, fs) => match fs.lookup m, T.lookup n with
    | none, some run => (a ρ M1).bind fun ds M2 => rGuard (decide ((d :: ds).length = np + 1)) (run (d :: ds) M2)
    | _, _ => .stuck
  | none => .stuck
theorem meth_read {T : List (Str × Fn)} {np : Nat} {a : Rn (List D)} {σ : L2.St} {H : Hp} {Q : VK} {ro : Rn D} (md : Md X c W E) (hT : ∀ n run, T.lookup n = some run → MtOk X c m np n run) (h : liftE c W (rMeth T m np ro a) σ H Q) :
    liftE c W ro σ H fun x H1 => ∃ b C dx fv, x = .ref b ∧ H1 b = some (.ins C dx fv) ∧ fv.lookup m = none ∧ Cls X.K C ∧ ∃ (run : Fn) (f : Addr) (fd : FuncData) (ps : List Str) (k : Nat), Meth X.K C m f ∧ FnOk X.prog X.w X.K X.mg X.base (L2.CX X.prog X.w) k f fd ps (spF c (np + 1) run) ∧ Room k X.A ∧ Binds X.K fd ps [] ∧
      liftA c W a σ H1 fun vs H2 => spF c (np + 1) run (x :: vs) H2 Q E := by
  obtain ⟨ρ, M, θ, P, w, er, o⟩ := h
  refine ⟨ρ, M, θ, P, w, er, Out.bind (R := RV c) o fun d M1 v H1 θ1 P1 w1 s1 r1 o1 => ?_⟩
  cases q : insOf d M1 with
  | none => simp only [q] at o1; exact o1.elim
  | some nf =>
    obtain ⟨n, fs⟩ := nf
    simp only [q] at o1
    obtain ⟨b, C, dx, fv, rfl, k0, k1, k2⟩ := ins_read w1 r1 q
    cases q1 : fs.lookup m with
    | some x => simp only [q1] at o1; exact o1.elim
    | none =>
      cases q2 : T.lookup n with
      | none => simp only [q1, q2] at o1; exact o1.elim
      | some run =>
        simp only [q1, q2] at o1
        obtain ⟨cl, f, fd, ps, k, hm, F, hr, hb⟩ := (hT n run q2).go C k0
        refine ⟨b, C, dx, fv, rfl, k1, (VRF.lookup k2).1 q1, cl, run, f, fd, ps, k, hm, F, hr, hb, ρ, M1, θ1, P1, w1, er.step s1, Out.bind (R := RL c) o1 fun ds M2 vs H2 θ2 P2 w2 s2 r2 o2 => ?_⟩
        obtain ⟨g, o2⟩ := Out.guard (R := RV c) o2
        exact sp_now (ds := d :: ds) md.we w2 ⟨_, vs, rfl, r1.step s2, r2⟩ (of_decide_eq_true g) o2
/-- o.m(e, ..) -/
theorem s_meth {T : List (Str × Fn)} {np : Nat} {es : List Expr} {ra : Rn (List D)} {apos : Pos} {pl : Sem Bool} (md : Md X c W E) (hT : ∀ n run, T.lookup n = some run → MtOk X c m np n run) (ho : PE X o (liftE c W ro)) (ha : PA X (e :: es) (liftA c W ra))
    (hst : starEach (e :: es) X.env = (false, eval e X.env) :: starEach es X.env := by rfl) (hpl : (backTo pos (starEach es X.env)).any (·.1) = false := by rfl)
    (ht : eval (.Call (.Attribute o m apos) (e :: es) [] pos) X.env = (do
      let ov ← eval o X.env
      standAt apos.atName
      let (f, first) ← holding [ov] (getMethod ov m pl)
      callWith pos f first (backTo pos (starEach (e :: es) X.env)) (backToKw pos (keywordEach [] X.env))) := by rfl) :
    PE X (.Call (.Attribute o m apos) (e :: es) [] pos) (liftE c W (rMeth T m np ro ra)) := by
  refine ⟨fun pins s σ H Q I h => ?_⟩
  refine PySem.W.methodCall_KW (pl := pl) (thn (ho.run pins s σ H _ I (meth_read md hT h)) fun u s1 ⟨x, H1, I1, rx, q⟩ => ?_) ht
  obtain ⟨b, C, dx, fv, rfl, ea, l, cl, run, f, fd, ps, k, hm, F, hr, hb, q⟩ := q
  have hu : u = Value.ref b := rx
  subst hu
  refine getmeth_ok I1 ea cl hm l ?_
  refine PySem.W.callWith_K (first := [.ref b]) (h₀ := X.base) I.ok.mod.kin hm.kp (thn (ha.run pos pins s1 σ H1 _ I1 q) fun us s2 ⟨vs, H2, I2, r, q2⟩ => ⟨I2.kIn, ?_⟩) hst hpl
  exact run_fn (us := .ref b :: us) (vs := .ref b :: vs) (dvs := []) F hr hb .nil md.pass I2 (.cons rfl r) (by rw [List.append_nil]; exact q2)
/-- o.m() -/
theorem s_meth0 {T : List (Str × Fn)} {apos : Pos} {pl : Sem Bool} (md : Md X c W E) (hT : ∀ n run, T.lookup n = some run → MtOk X c m 0 n run) (ho : PE X o (liftE c W ro))
    (ht : eval (.Call (.Attribute o m apos) [] [] pos) X.env = (do
      let ov ← eval o X.env
      standAt apos.atName
      let (f, first) ← holding [ov] (getMethod ov m pl)
      callWith pos f first (backTo pos (starEach [] X.env)) (backToKw pos (keywordEach [] X.env))) := by rfl) :
    PE X (.Call (.Attribute o m apos) [] [] pos) (liftE c W (rMeth T m 0 ro rNil)) := by
  refine ⟨fun pins s σ H Q I h => ?_⟩
  refine PySem.W.methodCall_KW (pl := pl) (thn (ho.run pins s σ H _ I (meth_read md hT h)) fun u s1 ⟨x, H1, I1, rx, q⟩ => ?_) ht
  obtain ⟨b, C, dx, fv, rfl, ea, l, cl, run, f, fd, ps, k, hm, F, hr, hb, q⟩ := q
  have hu : u = Value.ref b := rx
  subst hu
  obtain ⟨ρ, M, θ, P, w, er, o⟩ := q
  have q2 := Out.now (R := RL c) w o (rfl : ([] : List V) = [])
  refine getmeth_ok I1 ea cl hm l ?_
  exact PySem.W.callWith_K0 (first := [.ref b]) I1.kIn hm.kp (run_fn (us := [.ref b]) (vs := [.ref b]) (dvs := []) F hr hb .nil md.pass I1 (.cons rfl .nil) q2)
end
end Q

namespace Q
open PySem PySem.Spec PyProof.Rows L2

/-! ### super() in a method: the code that runs is known -/
abbrev WpC {α : Type} := @_root_.PySem.wpAt α
structure PEc (X : Cx) (k : Code) (e : Expr) (t : TE) : Prop where
  run : ∀ (pins : List (Addr × Obj)) (s : Shared) (σ : L2.St) (H : Hp) (Q : VK), Inv X pins σ H s → t σ H Q → WpC (model X.prog X.w) X.A k (eval e X.env) (EP X pins σ Q) X.xe s
structure PSc (X : Cx) (k : Code) (st : Stmt) (t : TS) : Prop where
  run : ∀ (pins : List (Addr × Obj)) (s : Shared) (σ : L2.St) (H : Hp) (E : Ends), Inv X pins σ H s → t E σ H → WpC (model X.prog X.w) X.A k (exec st X.env) (SP X pins E) X.xe s
structure PSsc (X : Cx) (k : Code) (st : List Stmt) (t : TS) : Prop where
  run : ∀ (pins : List (Addr × Obj)) (s : Shared) (σ : L2.St) (H : Hp) (E : Ends), Inv X pins σ H s → t E σ H → WpC (model X.prog X.w) X.A k (execs st X.env) (SP X pins E) X.xe s
section
variable {X : Cx} {k : Code} {c : Cl} {W : WX} {E : XK}
theorem PE.at {e : Expr} {t : TE} (h : PE X e t) : PEc X k e t := ⟨fun pins s σ H Q I q => wpAt_of_wpAny (h.run pins s σ H Q I q)⟩
theorem PSs.at {e : List Stmt} {t : TS} (h : PSs X e t) : PSsc X k e t := ⟨fun pins s σ H Q I q => wpAt_of_wpAny (h.run pins s σ H Q I q)⟩
theorem PEc.imp {e : Expr} {t t' : TE} (h : PEc X k e t) (i : ∀ σ H Q, t' σ H Q → t σ H Q) : PEc X k e t' := ⟨fun pins s σ H Q I q => h.run pins s σ H Q I (i _ _ _ q)⟩
theorem PSc.imp {e : Stmt} {t t' : TS} (h : PSc X k e t) (i : ∀ E σ H, t' E σ H → t E σ H) : PSc X k e t' := ⟨fun pins s σ H E I q => h.run pins s σ H E I (i _ _ _ q)⟩
/-- the first statement, then the rest -/
theorem sc_cons {st : Stmt} {rest : List Stmt} {a b : Sn} (h1 : PSc X k st (liftS c W a)) (h2 : PSs X rest (liftS c W b)) : PSsc X k (st :: rest) (liftS c W (rThen a b)) := by
  refine ⟨fun pins s σ H D I ⟨ρ, M, θ, P, w, er, o⟩ => ?_⟩
  refine PySem.ks_wpAt_execs_cons (PySem.ks_wpAt_mono (h1.run pins s σ H _ I ⟨ρ, M, θ, P, w, er, OutS.seq o⟩) (fun f s' q => ?_) fun _ _ z => z)
  cases f with
  | next =>
    obtain ⟨σ', H', I', q⟩ := q
    exact wpAt_of_wpAny (h2.run pins s' σ' H' D I' q)
  | brk => exact q
  | cont => exact q
  | ret u => exact q
theorem sc_one {st : Stmt} {a : Sn} (h1 : PSc X k st (liftS c W a)) : PSsc X k [st] (liftS c W a) := by
  refine ⟨fun pins s σ H D I q => ?_⟩
  refine PySem.ks_wpAt_execs_cons (PySem.ks_wpAt_mono (h1.run pins s σ H D I q) (fun f s' q => ?_) fun _ _ z => z)
  cases f with
  | next =>
    obtain ⟨σ', H', I', q⟩ := q
    exact wpAt_of_wpAny ((pss_nil (X := X)).run pins s' σ' H' D I' q)
  | brk => exact q
  | cont => exact q
  | ret u => exact q
theorem c_ret {e : Expr} {pos : Pos} {a : Rn D} (h : PEc X k e (liftE c W a)) : PSc X k (.Return (some e) pos) (liftS c W (rRet a)) := by
  refine ⟨fun pins s σ H D I ⟨ρ, M, θ, P, w, er, o⟩ => ?_⟩
  refine PySem.ks_wpAt_Return_some (PySem.ks_wpAt_mono (h.run pins s σ H (fun v H' => D.rt v H') I ⟨ρ, M, θ, P, w, er, OutS.bind (R := RV c) er o fun d M1 v H1 θ1 P1 w1 s1 r1 er1 o1 => o1 _ _ _ _ w1 .refl r1⟩) (fun u s' q => ?_) fun _ _ z => z)
  obtain ⟨v, H', I', r, q⟩ := q
  exact ⟨v, σ, H', I', r, q⟩
theorem c_expr {e : Expr} {pos : Pos} {a : Rn D} (h : PEc X k e (liftE c W a)) (hs : swapsWith e none pos.line X.env = pure false := by rfl) : PSc X k (.Expr e pos) (liftS c W (rDrop a)) := by
  refine ⟨fun pins s σ H D I ⟨ρ, M, θ, P, w, er, o⟩ => ?_⟩
  refine PySem.ks_wpAt_Expr_any (PySem.ks_wpAt_mono (h.run pins s σ H (fun v H' => D.nx σ H') I ⟨ρ, M, θ, P, w, er, OutS.bind (R := RV c) er o fun d M1 v H1 θ1 P1 w1 s1 r1 er1 o1 => o1 _ _ _ _ w1 .refl er1⟩) (fun u s' q => ?_) fun _ _ z => z) I.quiet hs
  obtain ⟨v, H', I', r, q⟩ := q
  exact ⟨σ, H', I', q⟩
theorem c_set {i : Nat} {x : Str} {e : Expr} {pos pos' : Pos} {a : Rn D} (hN : X.N.Nodup) (hi : X.N[i]? = some x) (hx : Loc X.env.scope x) (h : PEc X k e (liftE c W a)) (hs : swapsWith e (some (.Name x pos')) pos.line X.env = pure false := by rfl)
    (hf : X.fn x = true ∨ X.env.scope.names.lookup x = some .local := by first | exact .inl rfl | exact .inr rfl | assumption) : PSc X k (.Assign [.Name x pos'] e pos) (liftS c W (rAsg a (bName i))) := by
  refine ⟨fun pins s σ H D I ⟨ρ, M, θ, P, w, er, o⟩ => ?_⟩
  refine PySem.ks_wpAt_Assign_Name (PySem.ks_wpAt_mono (h.run pins s σ H (fun v H' => D.nx (σ.set i (some v)) H') I ⟨ρ, M, θ, P, w, er, OutS.bind (R := RV c) er o fun d M1 v H1 θ1 P1 w1 s1 r1 er1 o1 => o1 _ _ _ _ w1 .refl (er1.set i r1)⟩) (fun u s' q => ?_) fun _ _ z => z) hs
  obtain ⟨v, H', I', r, q⟩ := q
  exact store_ok I' hN hi hx r (fun s'' I'' => ⟨_, H', I'', q⟩) hf
/-- what stands of the method at f in the class at D: its code, its cell -/
structure SupF (X : Cx) (f cd cc C : Addr) : Prop where
  fn : ∃ oc od fd osl a, X.K.lookup f = some ⟨oc, od, .func fd, osl⟩ ∧ (fd.params.posonlyargs ++ fd.params.args).head? = some a ∧ a.arg = ("self" : Str)
  code : ∃ ccl cdd vs ccs tf, X.K.lookup cd = some ⟨ccl, cdd, .fields vs, ccs⟩ ∧ vs[2]? = some (.str X.prog.main.file tf)
  cell : ∃ cl cld csl, X.K.lookup cc = some ⟨cl, cld, .cell (some (.ref C)), csl⟩
  cls : ∃ cdD, PySem.W.clsIn X.K C = some cdD
  mro : PySem.W.mroIn X.K C (.ref C) = some true
  any : PySem.W.nsIn X.K cStatics "thirdparty.any" = some none
  sup : X.mg "super" = none
  top : (X.prog.main.scope.names.lookup ("super" : Str)).isSome = false
  eF : X.env.func = some f
  eC : X.env.code = .ref cd
  eK : X.env.cells.lookup ("__class__" : Str) = some cc
/-- the base's method -/
structure SupM (X : Cx) (c : Cl) (C : Addr) (m : Str) (np : Nat) (run : Fn) : Prop where
  go : ∃ (f2 : Addr) (fd : FuncData) (ps : List Str) (k : Nat), PySem.W.ks_superIn X.K C C m = some (some (.ref f2)) ∧ PySem.W.typeIn X.K (.ref f2) = some (.type "function") ∧ PySem.W.fnIn X.K f2 = true ∧
    FnOk X.prog X.w X.K X.mg X.base (L2.CX X.prog X.w) k f2 fd ps (spF c (np + 1) run) ∧ Room (k + 1) X.A ∧ Binds X.K fd ps []
/-- the object super() makes, in a state -/
theorem super_obj {f cd cc C x dx : Addr} {fs : List (Str × V)} {pins : List (Addr × Obj)} {s : Shared} {σ : L2.St} {H : Hp} {p0 p1 : Pos} {attr : Str} {whole : Sem Value} {body : List Stmt} {Q : Value → Shared → Prop} {i : Nat} (S : SupF X f cd cc C) (I : Inv X pins σ H s)
    (hi : X.N[i]? = some ("self" : Str)) (hv : σ[i]? = some (some (.ref x))) (hx : H x = some (.ins C dx fs)) (ks : X.env.scope.names.lookup ("super" : Str) = some .globalImplicit) (kc : X.env.scope.names.lookup ("__class__" : Str) = some .free)
    (ka : X.env.scope.names.lookup ("self" : Str) = some .local) (hat : (attr == ("__class__" : Str)) = false)
    (h : ∀ s', Inv X pins σ H s' → s'.heap.get? s.heap.objs.size = some { cls := .type "super", dict := none, data := .fields #[.ref C, .ref x, .ref C], slots := #[] } → Q (.ref s.heap.objs.size) s') :
    WpC (model X.prog X.w) X.A (.func body X.env) (attributeBase (.Call (.Name "super" p0) [] [] p1) attr X.env whole) Q X.xe s := by
  obtain ⟨oc, od, fd, osl, ar, hf, hp, har⟩ := S.fn
  obtain ⟨ccl, cdd, vs, ccs, tf, hcode, hvs⟩ := S.code
  obtain ⟨cl, cld, csl, hcell⟩ := S.cell
  obtain ⟨cdD, hD⟩ := S.cls
  have KX := I.kIn
  obtain ⟨mA, O, _, _, _, _⟩ := ins_get I.hok hx
  obtain ⟨odx, J, _⟩ := O.look
  obtain ⟨m, hns, hl⟩ := I.loc
  obtain ⟨u, ru, lu⟩ := hl i _ _ hi hv (.inl ka)
  have hu : u = Value.ref x := ru
  subst hu
  have hm : m ("self" : Str) = some (.ref x) := by
    rcases lu with ⟨_, e⟩ | ⟨z, _⟩
    · exact e
    · have z' : X.env.scope.names.lookup ("self" : Str) = some .cell ∨ X.env.scope.names.lookup ("self" : Str) = some .free := z
      rw [ka] at z'
      rcases z' with z' | z' <;> cases z'
  obtain ⟨oD, hD1, hD2⟩ : ∃ oD, s.heap.get? C = some oD ∧ oD.data = .cls cdD := by
    unfold PySem.W.clsIn at hD
    split at hD
    · rename_i c d cd' sl ho
      cases hD
      exact ⟨_, KX _ _ ho, rfl⟩
    · cases hD
  obtain ⟨mb, b1, b2⟩ := I.mod.blt
  have hsup : X.env.kindOf "super" = some .globalImplicit := ks
  refine PySem.ks_wpAt_super_base (env := X.env) hsup kc hat S.eF (KX _ _ hf) rfl hp S.eC (KX _ _ hcode) rfl hvs (by simp) S.top ?_
  refine PySem.W.ks_loadName_global I.ok.kind hsup (Calls.loadGlobal_builtin (by rw [I.ok.glob]; exact I.mod.glob.keeps I.bk) S.sup (by rw [I.ok.blt]; exact b1.keeps I.bk) ((b2 _ (by decide +kernel)).trans (by decide +kernel)) ⟨rfl, ?_⟩)
  refine wpAny_loadName_free I.ok.kind kc S.eK ⟨_, KX _ _ hcell, rfl⟩ ?_
  rw [har]
  refine wpAny_loadName_local I.ok.kind ka hns hm ?_
  obtain ⟨hh, g, d, t, os⟩ := s
  refine PySem.ks_wpAny_isType_cls hD1 hD2 ⟨rfl, ?_⟩
  refine PySem.ks_wpAny_call_super hD1 hD2 J.at_ J.cls (fun c e => ?_) (PySem.W.looks_mroIn KX S.mro) (fun h' e kk => ?_)
  · have := J.no
    unfold PySem.W.notCls at this
    rw [e] at this
    exact Bool.noConfusion this
  · exact h ⟨h', g, d, t, os⟩ (I.kept (t' := t) kk) e
/-- super().m(..) in a method of the class cn; slot i: self -/
def rSup (i : Nat) (cn : Str) (np : Nat) (run : Fn) (a : Rn (List D)) : Rn D := fun ρ M => match ρ[i]? with
  | some (some d) => match insOf d M with
    | some (n, _) => rGuard (n == cn) ((a ρ M).bind fun ds M2 => rGuard (decide ((d :: ds).length = np + 1)) (run (d :: ds) M2))
    | none => .stuck
  | _ => .stuck
theorem sup_read {i np : Nat} {cn : Str} {C : Addr} {run : Fn} {a : Rn (List D)} {σ : L2.St} {H : Hp} {Q : VK} (md : Md X c W E) (hC : c.adr cn = some C) (h : liftE c W (rSup i cn np run a) σ H Q) :
    ∃ x dx fv, σ[i]? = some (some (.ref x)) ∧ H x = some (.ins C dx fv) ∧ liftA c W a σ H fun vs H2 => spF c (np + 1) run (.ref x :: vs) H2 Q E := by
  obtain ⟨ρ, M, θ, P, w, er, o⟩ := h
  unfold rSup at o
  cases q : ρ[i]? with
  | none => simp only [q] at o; exact o.elim
  | some y =>
    cases y with
    | none => simp only [q] at o; exact o.elim
    | some d =>
      simp only [q] at o
      obtain ⟨v, e1, r1⟩ := er.at_ i d q
      cases q2 : insOf d M with
      | none => simp only [q2] at o; exact o.elim
      | some nf =>
        obtain ⟨n, fs⟩ := nf
        simp only [q2] at o
        obtain ⟨g, o1⟩ := Out.guard (R := RV c) o
        have e : n = cn := beq_iff_eq.mp g
        subst e
        obtain ⟨b, C', dx, fv, rfl, k0, k1, k2⟩ := ins_read w r1 q2
        rw [hC] at k0
        cases k0
        refine ⟨b, dx, fv, e1, k1, ρ, M, θ, P, w, er, Out.bind (R := RL c) o1 fun ds M2 vs H2 θ2 P2 w2 s2 r2 o2 => ?_⟩
        obtain ⟨g2, o2⟩ := Out.guard (R := RV c) o2
        exact sp_now (ds := d :: ds) md.we w2 ⟨_, vs, rfl, r1.step s2, r2⟩ (of_decide_eq_true g2) o2
theorem run_bound {f2 so x : Addr} {fd : FuncData} {ps : List Str} {kk np : Nat} {run : Fn} {pins : List (Addr × Obj)} {σ : L2.St} {H : Hp} {s : Shared} {Q : VK} {us : List Value} {vs : List V} (md : Md X c W E) (F : FnOk X.prog X.w X.K X.mg X.base (L2.CX X.prog X.w) kk f2 fd ps (spF c (np + 1) run)) (hr : Room (kk + 1) X.A) (hb : Binds X.K fd ps [])
    (I : Inv X pins σ H s) (ho : s.heap.get? so = some (PySem.W.methodObj (.ref f2) (.ref x))) (r : Vals vs us) (h : spF c (np + 1) run (.ref x :: vs) H Q E) : wpAny (model X.prog X.w) X.A (call (.ref so) us) (EP X pins σ Q) X.xe s := by
  have hl : (Value.ref x :: us ++ []).length = ps.length := by
    have r2 : Vals (V.ref x :: vs) (Value.ref x :: us) := .cons rfl r
    rw [List.append_nil, ← r2.length]
    exact F.len _ _ _ _ h
  have B := hb s (Value.ref x :: us) I.kIn hl
  rw [List.append_nil] at B
  refine wpAny_call (PySem.ks_codeAny_call_bound (a := ⟨us, []⟩) ho (codeAny_mono (F.run X.A X.stack s H ⟨Value.ref x :: us, []⟩ (Value.ref x :: us) (.ref x :: vs) Q E (hr.mono (Nat.le_succ _)) I.env0 B (.cons rfl r) h) fun r s' hq => ?_))
  cases r with
  | error e => exact md.pass pins σ H s e s' I hq
  | ok fl =>
    cases fl with
    | ret u => exact I.after hq
    | next => exact False.elim hq
    | brk => exact False.elim hq
    | cont => exact False.elim hq
theorem super_get {f cd cc C x dx f2 : Addr} {fs : List (Str × V)} {pins : List (Addr × Obj)} {s : Shared} {σ : L2.St} {H : Hp} {p0 p1 : Pos} {m : Str} {whole : Sem Value} {pl : Sem Bool} {body : List Stmt} {Q : Value × List Value → Shared → Prop} {i : Nat} (S : SupF X f cd cc C) (I : Inv X pins σ H s)
    (hi : X.N[i]? = some ("self" : Str)) (hv : σ[i]? = some (some (.ref x))) (hx : H x = some (.ins C dx fs)) (ks : X.env.scope.names.lookup ("super" : Str) = some .globalImplicit) (kc : X.env.scope.names.lookup ("__class__" : Str) = some .free)
    (ka : X.env.scope.names.lookup ("self" : Str) = some .local) (hat : (m == ("__class__" : Str)) = false) (hm : PySem.W.ks_superIn X.K C C m = some (some (.ref f2))) (ht : PySem.W.typeIn X.K (.ref f2) = some (.type "function"))
    (h : ∀ so s', Inv X pins σ H s' → s.heap.objs.size ≤ so → H so = none → s'.heap.get? so = some (PySem.W.methodObj (.ref f2) (.ref x)) → Q (.ref so, []) s') :
    WpC (model X.prog X.w) X.A (.func body X.env) (attributeBase (.Call (.Name "super" p0) [] [] p1) m X.env whole) (fun ov s1 => wpAny (model X.prog X.w) X.A (getMethod ov m pl) Q X.xe s1) X.xe s := by
  refine super_obj S I hi hv hx ks kc ka hat fun s' I' e => ?_
  have KX := I'.kIn
  obtain ⟨mA, O, _, _, _, _⟩ := ins_get I'.hok hx
  obtain ⟨odx, J, _⟩ := O.look
  obtain ⟨cdD, hD⟩ := S.cls
  have hsz := I'.hok.fresh (Nat.le_refl s'.heap.objs.size)
  have h0 := Heap.lt_size e
  obtain ⟨hh, g, d, t, os⟩ := s'
  unfold PySem.W.ks_superIn at hm
  rw [hD] at hm
  obtain ⟨of, hof, hofc⟩ : ∃ of, hh.get? f2 = some of ∧ of.cls = .type "function" := by
    have ht' : (X.K.lookup f2).map (·.cls) = some (.type "function") := ht
    cases z : X.K.lookup f2 with
    | none => rw [z] at ht'; cases ht'
    | some of => rw [z] at ht'; exact ⟨of, KX _ _ z, Option.some.inj ht'⟩
  refine PySem.ks_wpAny_getMethod_super e (PySem.W.looks_opaque KX S.any) (l₀ := cdD.mro) ?_ rfl KX hm hof hofc (PySem.W.ks_ne KX J hD) hat ?_
  · exact fun A Q E s k q => wpAny_bind ((PySem.W.looks_clsIn KX hD) A _ E s k (wpAny_pure q))
  · refine h hh.objs.size _ (I'.kept (t' := t + 1) fun b o z => Heap.get?_push_of_some _ z) (Nat.le_of_lt h0) hsz (Heap.get?_push_at rfl rfl)
/-- super().m() -/
theorem c_super0 {f cd cc C : Addr} {p0 p1 apos pos : Pos} {m cn : Str} {run : Fn} {body : List Stmt} {i : Nat} {pl : Sem Bool} (md : Md X c W E) (S : SupF X f cd cc C) (T : SupM X c C m 0 run) (hC : c.adr cn = some C) (hi : X.N[i]? = some ("self" : Str)) (ks : X.env.scope.names.lookup ("super" : Str) = some .globalImplicit)
    (kc : X.env.scope.names.lookup ("__class__" : Str) = some .free) (ka : X.env.scope.names.lookup ("self" : Str) = some .local) (hat : (m == ("__class__" : Str)) = false)
    (he : eval (.Call (.Attribute (.Call (.Name "super" p0) [] [] p1) m apos) [] [] pos) X.env = (do
      let ov ← attributeBase (.Call (.Name "super" p0) [] [] p1) m X.env (eval (.Call (.Name "super" p0) [] [] p1) X.env)
      standAt apos.atName
      let (f, first) ← holding [ov] (getMethod ov m pl)
      callWith pos f first (backTo pos (starEach [] X.env)) []) := by rfl) :
    PEc X (.func body X.env) (.Call (.Attribute (.Call (.Name "super" p0) [] [] p1) m apos) [] [] pos) (liftE c W (rSup i cn 0 run rNil)) := by
  refine ⟨fun pins s σ H Q I h => ?_⟩
  obtain ⟨x, dx, fv, hv, hx, h⟩ := sup_read md hC h
  obtain ⟨f2, fd, ps, kk, g1, g2, g3, F, hr, hb⟩ := T.go
  refine PySem.ks_wpAt_MethodCall (pl := pl) ?_ he
  refine super_get S I hi hv hx ks kc ka hat g1 g2 fun so s' I' _ _ e => ?_
  obtain ⟨ρ, M, θ, P, w, er, o⟩ := h
  have q2 := Out.now (R := RL c) w o (rfl : ([] : List V) = [])
  exact PySem.W.callWith_M0 ⟨e, I'.kIn⟩ g3 (run_bound (us := []) (vs := []) md F hr hb I' e .nil q2)
/-- super().m(e, ..) -/
theorem c_super {f cd cc C : Addr} {p0 p1 apos pos : Pos} {m cn : Str} {run : Fn} {body : List Stmt} {i np : Nat} {pl : Sem Bool} {e : Expr} {es : List Expr} {ra : Rn (List D)} (md : Md X c W E) (S : SupF X f cd cc C) (T : SupM X c C m np run) (hC : c.adr cn = some C) (hi : X.N[i]? = some ("self" : Str)) (ks : X.env.scope.names.lookup ("super" : Str) = some .globalImplicit)
    (kc : X.env.scope.names.lookup ("__class__" : Str) = some .free) (ka : X.env.scope.names.lookup ("self" : Str) = some .local) (hat : (m == ("__class__" : Str)) = false) (ha : PA X (e :: es) (liftA c W ra))
    (he : eval (.Call (.Attribute (.Call (.Name "super" p0) [] [] p1) m apos) (e :: es) [] pos) X.env = (do
      let ov ← attributeBase (.Call (.Name "super" p0) [] [] p1) m X.env (eval (.Call (.Name "super" p0) [] [] p1) X.env)
      standAt apos.atName
      let (f, first) ← holding [ov] (getMethod ov m pl)
      callWith pos f first (backTo pos (starEach (e :: es) X.env)) []) := by rfl)
    (hst : starEach (e :: es) X.env = (false, eval e X.env) :: starEach es X.env := by rfl) (hpl : (backTo pos (starEach es X.env)).any (·.1) = false := by rfl) :
    PEc X (.func body X.env) (.Call (.Attribute (.Call (.Name "super" p0) [] [] p1) m apos) (e :: es) [] pos) (liftE c W (rSup i cn np run ra)) := by
  refine ⟨fun pins s σ H Q I h => ?_⟩
  obtain ⟨x, dx, fv, hv, hx, h⟩ := sup_read md hC h
  obtain ⟨f2, fd, ps, kk, g1, g2, g3, F, hr, hb⟩ := T.go
  refine PySem.ks_wpAt_MethodCall (pl := pl) ?_ he
  refine super_get S I hi hv hx ks kc ka hat g1 g2 fun so s' I' hso hno e' => ?_
  have hlt : X.env.locals < so := Nat.lt_of_lt_of_le I.lt hso
  have IP : Inv X (pins ++ [(so, PySem.W.methodObj (.ref f2) (.ref x))]) σ H s' := I'.pins_of fun p hp => by
    rcases List.mem_append.mp hp with hp | hp
    · exact I'.pin p (List.mem_append_right _ hp)
    · have : p = (so, PySem.W.methodObj (.ref f2) (.ref x)) := by simpa using hp
      subst this
      exact ⟨e', hno, Nat.ne_of_gt hlt, I.nofs hso, fun v z => by cases z⟩
  have pin2 : ∀ {H2 : Hp} {s2 : Shared}, Inv X (pins ++ [(so, PySem.W.methodObj (.ref f2) (.ref x))]) σ H2 s2 → s2.heap.get? so = some (PySem.W.methodObj (.ref f2) (.ref x)) := fun {H2 s2} J => (J.pin (so, PySem.W.methodObj (.ref f2) (.ref x)) (by simp)).1
  have un : ∀ {H2 : Hp} {s2 : Shared}, Inv X (pins ++ [(so, PySem.W.methodObj (.ref f2) (.ref x))]) σ H2 s2 → Inv X pins σ H2 s2 := fun {H2 s2} J => J.unpinned
  refine PySem.W.callWith_of (P := PySem.W.MethP X.K so f2 (.ref x)) ?_ (PySem.W.keeps_M g3) ?_
  · rw [hst]
    show ((false || (backTo pos (starEach es X.env)).any (·.1)) || false) = false
    rw [hpl]
    rfl
  · rw [hst]
    have hA := ha.run pos _ s' σ H _ IP h
    rw [hst] at hA
    exact PySem.Calls.evalArgs_plain (thn hA fun us s2 ⟨vs, H2, I2, r, q2⟩ => ⟨⟨pin2 I2, (un I2).kIn⟩, run_bound md F hr hb (un I2) (pin2 I2) r q2⟩)
end
end Q

namespace Q
open PySem PySem.Spec PyProof.Rows L2

/-! ### the head: where defs stand -/
/-- a global's function; a class's method; a property's getter -/
inductive Ad where
  | glo (x : Str)
  | meth (x m : Str)
  | get (x m : Str)
  | stat (x m : Str)
def adr (K : PySem.W.Frag) : Ad → Addr
  | .glo x => He.ga K x
  | .meth x m => He.ma K (He.ga K x) m
  | .get x m => match PySem.W.recIn K (He.ma K (He.ga K x) m) "property" with
    | some (.ref g :: _) => g
    | _ => 0
  | .stat x m => match PySem.W.recIn K (He.ma K (He.ga K x) m) "staticmethod" with
    | some (.ref g :: _) => g
    | _ => 0
structure DefQ where
  at_ : Ad
  name : Str
  qual : Str
  params : Arguments
  body : List Stmt
  scope : Scope
  dfl : List He.Dv := []
  kwd : List (Str × He.Dv) := []
  clo : List Str := []
abbrev FnV : Type := Option (Str × Str × Arguments × FuncBody × Scope × Addr × List Str × Addr)
def fnV (K : PySem.W.Frag) (p : Ad) : FnV := match K.lookup (adr K p) with
  | some ⟨_, _, .func fd, _⟩ => some (fd.name, fd.qualname, fd.params, fd.body, fd.scope, fd.globals, fd.closure.map (·.1), fd.builtins)
  | _ => none
def DefQ.val (d : DefQ) : FnV := some (d.name, d.qual, d.params, .stmts d.body, d.scope, mainGlobals, d.clo, builtinsNs)
def DefQ.dvs (K : PySem.W.Frag) (d : DefQ) : List V := d.dfl.map (He.Dv.v K)
def DefQ.kws (K : PySem.W.Frag) (d : DefQ) : List (Str × V) := d.kwd.map fun q => (q.1, q.2.v K)
def DefQ.ok (K : PySem.W.Frag) (d : DefQ) : Bool := PySem.W.keepIn K (.ref (adr K d.at_)) && (match K.lookup (adr K d.at_) with
  | some ⟨_, _, .func fd, _⟩ => PySem.W.codeIn K fd.code d.qual && (He.dflB K fd.defaults (d.dvs K) && He.kwdB K fd.kwdefaults (d.kws K))
  | _ => false)
/-- a def as it stands, with what it captured -/
structure FunQ (K : PySem.W.Frag) (d : DefQ) (f : Addr) (fd : FuncData) : Prop where
  ex : ∃ (clo : List (Str × Addr)) (oc : Value) (od : Option Addr) (dV kV doc pm : Value) (an : Option Addr) (cdv ct : Value) (osl : Array (Option Value)),
    fd = PySem.W.fnX d.name d.qual d.params d.body d.scope clo dV kV doc pm an cdv ct ∧ clo.map (·.1) = d.clo ∧ K.lookup f = some ⟨oc, od, .func fd, osl⟩ ∧ PySem.W.codeIn K cdv d.qual = true ∧ DflV K dV (d.dvs K) ∧ KwdV K kV (d.kws K)
  kp : PySem.W.keepIn K (.ref f) = true
theorem DefQ.funQ {K : PySem.W.Frag} {d : DefQ} (e : fnV K d.at_ = d.val) (c : d.ok K = true) : ∃ fd, FunQ K d (adr K d.at_) fd := by
  obtain ⟨kp, c2⟩ := He.ba c
  unfold fnV at e
  cases q : K.lookup (adr K d.at_) with
  | none =>
    rw [q] at c2
    cases c2
  | some o =>
    obtain ⟨oc, od, dt, osl⟩ := o
    rw [q] at c2 e
    cases dt with
    | func fd =>
      obtain ⟨n1, n2, n3, n4, n5, n6, n7, n8, n9, n10, n11, n12, n13, n14, n15⟩ := fd
      have e2 : (some (n1, n2, n3, n4, n5, n6, n7.map (·.1), n15) : FnV) = some (d.name, d.qual, d.params, .stmts d.body, d.scope, mainGlobals, d.clo, builtinsNs) := e
      simp only [Option.some.injEq, Prod.mk.injEq] at e2
      obtain ⟨h1, h2, h3, h4, h5, h6, h7, h8⟩ := e2
      subst h1 h2 h3 h4 h5 h6 h8
      have c3 : (PySem.W.codeIn K n13 d.qual && (He.dflB K n8 (d.dvs K) && He.kwdB K n9 (d.kws K))) = true := c2
      obtain ⟨k1, k2⟩ := He.ba c3
      obtain ⟨k3, k4⟩ := He.ba k2
      exact ⟨_, ⟨n7, oc, od, n8, n9, n10, n11, n12, n13, n14, osl, rfl, h7, q, k1, He.dflB_ok k3, He.kwdB_ok k4⟩, kp⟩
    | _ => cases c2
theorem FunQ.funD {K : PySem.W.Frag} {d : DefQ} {f : Addr} {fd : FuncData} (h : FunQ K d f fd) (hc : d.clo = []) : FunD K d.name d.qual d.params d.body d.scope (d.dvs K) (d.kws K) f fd := by
  obtain ⟨clo, oc, od, dV, kV, doc, pm, an, cdv, ct, osl, e, hcl, lk, k1, k2, k3⟩ := h.ex
  rw [hc] at hcl
  have hn : clo = [] := List.map_eq_nil_iff.mp hcl
  subst hn
  exact ⟨⟨oc, od, dV, kV, doc, pm, an, cdv, ct, osl, e, lk, k1, k2, k3⟩, h.kp⟩
theorem FunQ.one {K : PySem.W.Frag} {d d' : DefQ} {f : Addr} {fd fd' : FuncData} (h : FunQ K d f fd) (h' : FunQ K d' f fd') : fd = fd' := by
  obtain ⟨_, oc, od, dV, kV, doc, pm, an, cdv, ct, osl, _, _, lk3, _⟩ := h.ex
  obtain ⟨_, oc', od', dV', kV', doc', pm', an', cdv', ct', osl', _, _, lk4, _⟩ := h'.ex
  have := lk3.symm.trans lk4
  simp only [Option.some.injEq, Obj.mk.injEq, Data.func.injEq] at this
  exact this.2.2.1
/-- every parameter is given by place -/
theorem FunQ.bindsN {K : PySem.W.Frag} {d : DefQ} {f : Addr} {fd : FuncData} {ps : List Str} (h : FunQ K d f fd) (hd : d.dfl = [])
    (hb : ∀ (clo : List (Str × Addr)) (kV doc pm : Value) (an : Option Addr) (cdv ct : Value) (us : List Value), us.length = ps.length → bindArgs (PySem.W.fnX d.name d.qual d.params d.body d.scope clo .none kV doc pm an cdv ct) ⟨us, []⟩ = pure (ps.zip us)) : Binds K fd ps [] := by
  obtain ⟨clo, oc, od, dV, kV, doc, pm, an, cdv, ct, osl, rfl, hcl, lk, k1, k2, k3⟩ := h.ex
  have e1 : d.dvs K = [] := by unfold DefQ.dvs; rw [hd]; rfl
  rw [e1] at k2
  rcases k2 with ⟨_, rfl⟩ | ⟨e, _⟩
  · exact .all (hb clo kV doc pm an cdv ct)
  · exact absurd rfl e
/-! ### more facts -/
def tyV (K : PySem.W.Frag) : Ty → Value
  | .inl b => .type b
  | .inr n => .ref (He.ga K n)
inductive Fq where
  | h (f : He.Fa)
  | prop (x m : Str)
  | sup (x m : Str) (b : Ad)
  | self (p : Ad) (x : Str) (file : Str)
  | isi (t u : Ty) (b : Bool)
  | ins (x : Str)
  | same (a b : Ad)
  | ex (b : PySem.W.Frag → Bool)
def cellB (K : PySem.W.Frag) (cc C : Addr) : Bool := match K.lookup cc with
  | some ⟨_, _, .cell (some (.ref D)), _⟩ => decide (D = C)
  | _ => false
def fileB (K : PySem.W.Frag) (cd : Addr) (file : Str) : Bool := match K.lookup cd with
  | some ⟨_, _, .fields vs, _⟩ => (match vs[2]? with
    | some (Value.str z _) => decide (z = file)
    | _ => false)
  | _ => false
def selfM (K : PySem.W.Frag) (C : Addr) (file : Str) (clo : List (Str × Addr)) (cdv : Value) (params : Arguments) : Bool := match clo, cdv with
  | [(n, cc)], .ref cd => decide (n = "__class__") && (cellB K cc C && (fileB K cd file && (match (params.posonlyargs ++ params.args).head? with
    | some a => decide (a.arg = "self")
    | none => false)))
  | _, _ => false
theorem selfM_ok {K : PySem.W.Frag} {C : Addr} {file : Str} {clo : List (Str × Addr)} {cdv : Value} {params : Arguments} (h : selfM K C file clo cdv params = true) : ∃ cc cd, clo = [(("__class__" : Str), cc)] ∧ cdv = .ref cd ∧ cellB K cc C = true ∧ fileB K cd file = true ∧ ∃ a, (params.posonlyargs ++ params.args).head? = some a ∧ a.arg = ("self" : Str) := by
  unfold selfM at h
  split at h
  · rename_i n cc cd
    obtain ⟨g1, g2⟩ := He.ba h
    obtain ⟨g2, g3⟩ := He.ba g2
    obtain ⟨g3, g4⟩ := He.ba g3
    refine ⟨cc, cd, by rw [of_decide_eq_true g1], rfl, g2, g3, ?_⟩
    split at g4
    · rename_i a q
      exact ⟨a, q, of_decide_eq_true g4⟩
    · cases g4
  · cases h
def selfB (K : PySem.W.Frag) (p : Ad) (C : Addr) (file : Str) : Bool := match K.lookup (adr K p) with
  | some ⟨_, _, .func fd, _⟩ => selfM K C file fd.closure fd.code fd.params
  | _ => false
def Fq.ok (K : PySem.W.Frag) : Fq → Bool
  | .h f => f.ok K
  | .prop x m => He.eqO (PySem.W.findIn K (.ref (He.ga K x)) m) (some (some (.ref (He.ma K (He.ga K x) m)))) && (He.eqO (PySem.W.specialIn K (.ref (He.ma K (He.ga K x) m)) "__get__") (some (some (.builtin "property.__get__"))) &&
      (decide (PySem.W.takesIn K (.ref (He.ma K (He.ga K x) m)) = some true) && (match PySem.W.recIn K (He.ma K (He.ga K x) m) "property" with
        | some (.ref _ :: _) => true
        | _ => false)))
  | .sup x m b => He.eqO (PySem.W.ks_superIn K (He.ga K x) (He.ga K x) m) (some (some (.ref (adr K b)))) && (decide (PySem.W.typeIn K (.ref (adr K b)) = some (.type "function")) && PySem.W.fnIn K (adr K b))
  | .self p x file => selfB K p (He.ga K x) file && ((PySem.W.clsIn K (He.ga K x)).isSome && (decide (PySem.W.mroIn K (He.ga K x) (.ref (He.ga K x)) = some true) && He.eqO (PySem.W.nsIn K cStatics "thirdparty.any") (some none)))
  | .isi t u b => decide (PySem.W.kitOne K (tyV K t) (tyV K u) = some b)
  | .ins x => (He.Fa.cls x).ok K && (He.eqO (PySem.W.findIn K (.ref (He.ga K x)) "__class__") (some (some (.builtin "object.__class__"))) && (He.eqO (PySem.W.specialIn K (.builtin "object.__class__") "__get__") (some (some (.builtin "getset_descriptor.__get__"))) &&
      (decide (PySem.W.takesIn K (.builtin "object.__class__") = some true) && decide (PySem.W.mroIn K (He.ga K x) (.type "object") = some true))))
  | .same a b => decide (adr K a = adr K b)
  | .ex b => b K
section
variable {K : PySem.W.Frag}
theorem prop_ok {x m : Str} (h : (Fq.prop x m).ok K = true) : PropOf K (He.ga K x) m (He.ma K (He.ga K x) m) (adr K (.get x m)) := by
  obtain ⟨h1, h2⟩ := He.ba h
  obtain ⟨h2, h3⟩ := He.ba h2
  obtain ⟨h3, h4⟩ := He.ba h3
  refine ⟨He.eqO_ok h1, He.eqO_ok h2, of_decide_eq_true h3, ?_⟩
  split at h4
  · rename_i g rest q
    exact ⟨rest, by simp only [adr, q]⟩
  · cases h4
theorem ins_ok {x : Str} (h : (Fq.ins x).ok K = true) {H : Hp} {a dx : Addr} {fs : List (Str × V)} (e : H a = some (.ins (He.ga K x) dx fs)) : TyOf K H (.ref a) (.ref (He.ga K x)) := by
  obtain ⟨h1, h2⟩ := He.ba h
  obtain ⟨h2, h3⟩ := He.ba h2
  obtain ⟨h3, h4⟩ := He.ba h3
  obtain ⟨h4, h5⟩ := He.ba h4
  exact .ins e (He.cls_ok h1) (He.eqO_ok h2) (He.eqO_ok h3) (of_decide_eq_true h4) (of_decide_eq_true h5)
end
/-! ### the Hook -/
abbrev AlQ : Type := Bool × List FnV
def obsQ (fa : List Fq) (fn : List DefQ) (K : PySem.W.Frag) : AlQ := ((fa.all fun f => f.ok K) && fn.all fun d => d.ok K, fn.map fun d => fnV K d.at_)
def valQ (fn : List DefQ) : AlQ := (true, fn.map DefQ.val)
def obsQG (n : Nat) (fa : List Fq) (fn : List DefQ) (g : Addr → Option Obj) : AlQ := obsQ fa fn (He.frG g (cStatics :: He.asD g n))
def hookQ (n : Nat) (fa : List Fq) (fn : List DefQ) : PySem.W.Hook where
  α := AlQ
  obs := fun s => obsQG n fa fn s.heap.get?
  val := fun _ => valQ fn
  says := fun _ h => ∃ K : PySem.W.Frag, K.In h ∧ obsQ fa fn K = valQ fn
  of := fun _ _ e => ⟨_, He.frG_in, e⟩
  keeps := fun _ _ _ ⟨K, hK, c⟩ k => ⟨K, PySem.W.Frag.In.keeps hK k, c⟩
theorem obsQG_is {n : Nat} {fa : List Fq} {fn : List DefQ} {g : Addr → Option Obj} {s : Shared} (h : ∀ a, g a = s.heap.get? a) : obsQG n fa fn g = (hookQ n fa fn).obs s := by
  have e : g = s.heap.get? := funext h
  rw [e]
  rfl
section
variable {fa : List Fq} {fn : List DefQ} {K : PySem.W.Frag}
theorem says_fact (c : obsQ fa fn K = valQ fn) (i : Nat) (f : Fq) (h : fa[i]? = some f) : f.ok K = true := by
  have c1 := (He.ba (show ((fa.all fun f => f.ok K) && fn.all fun d => d.ok K) = true from congrArg (fun z : AlQ => z.1) c)).1
  exact List.all_eq_true.mp c1 f (List.mem_of_getElem? h)
theorem says_def (c : obsQ fa fn K = valQ fn) (i : Nat) (d : DefQ) (h : fn[i]? = some d) : ∃ fd, FunQ K d (adr K d.at_) fd := by
  have c2 := (He.ba (show ((fa.all fun f => f.ok K) && fn.all fun d => d.ok K) = true from congrArg (fun z : AlQ => z.1) c)).2
  have e : fn.map (fun d => fnV K d.at_) = fn.map DefQ.val := congrArg (fun z : AlQ => z.2) c
  have e2 : (fn.map fun d => fnV K d.at_)[i]? = (fn.map DefQ.val)[i]? := by rw [e]
  rw [List.getElem?_map, List.getElem?_map, h] at e2
  exact DefQ.funQ (Option.some.inj e2) (List.all_eq_true.mp c2 d (List.mem_of_getElem? h))
end
end Q

namespace Q
open PySem PySem.Spec PyProof.Rows L2

/-! ### what the head tells -/
structure Kq (fa : List Fq) (fn : List DefQ) (cs : List Str) (c : Cl) (mg : Str → Option Value) : Prop where
  fact : ∀ (i : Nat) (f : Fq), fa[i]? = some f → f.ok c.K = true
  defd : ∀ (i : Nat) (d : DefQ), fn[i]? = some d → ∃ fd, FunQ c.K d (adr c.K d.at_) fd
  home : ∃ h : Heap, c.K.In h ∧ h.Ns mainGlobals mg
  at_ : ∀ n ∈ cs, c.adr n = some (He.ga c.K n)
section
variable {fa : List Fq} {fn : List DefQ} {cs : List Str} {c : Cl} {mg : Str → Option Value}
theorem Kq.glo (S : Kq fa fn cs c mg) (i : Nat) {x : Str} (h : fa[i]? = some (.h (.glo x)) := by rfl) : mg x = some (.ref (He.ga c.K x)) := by
  obtain ⟨hp, X, G⟩ := S.home
  exact He.glo_ok X G (S.fact i _ h)
theorem Kq.free (S : Kq fa fn cs c mg) (i : Nat) {x : Str} (h : fa[i]? = some (.h (.free x)) := by rfl) : mg x = none := by
  obtain ⟨hp, X, G⟩ := S.home
  exact He.free_ok X G (S.fact i _ h)
theorem Kq.int (S : Kq fa fn cs c mg) (i : Nat) {x : Str} {z : Int} (h : fa[i]? = some (.h (.int x z)) := by rfl) : ∃ t, mg x = some (.int z t) := by
  obtain ⟨hp, X, G⟩ := S.home
  exact He.int_ok X G (S.fact i _ h)
theorem Kq.str (S : Kq fa fn cs c mg) (i : Nat) {x z : Str} (h : fa[i]? = some (.h (.str x z)) := by rfl) : ∃ t, mg x = some (.str z t) := by
  obtain ⟨hp, X, G⟩ := S.home
  exact He.str_ok X G (S.fact i _ h)
theorem Kq.cls (S : Kq fa fn cs c mg) (i : Nat) {x : Str} (h : fa[i]? = some (.h (.cls x)) := by rfl) : Cls c.K (He.ga c.K x) := He.cls_ok (S.fact i _ h)
theorem Kq.noat (S : Kq fa fn cs c mg) (i : Nat) {x f : Str} (h : fa[i]? = some (.h (.noat x f)) := by rfl) : NoAttr c.K (He.ga c.K x) f := He.noat_ok (S.fact i _ h)
theorem Kq.same (S : Kq fa fn cs c mg) (i : Nat) {a b : Ad} (h : fa[i]? = some (.same a b) := by rfl) : adr c.K a = adr c.K b := of_decide_eq_true (S.fact i _ h)
theorem Kq.ex (S : Kq fa fn cs c mg) (i : Nat) {b : PySem.W.Frag → Bool} (h : fa[i]? = some (.ex b) := by rfl) : b c.K = true := S.fact i _ h
theorem Kq.meth (S : Kq fa fn cs c mg) (i : Nat) {x m : Str} (h : fa[i]? = some (.h (.meth x m)) := by rfl) : Meth c.K (He.ga c.K x) m (adr c.K (.meth x m)) := He.meth_ok (S.fact i _ h)
theorem Kq.mkr (S : Kq fa fn cs c mg) (i : Nat) {x : Str} (h : fa[i]? = some (.h (.mkr x)) := by rfl) : Mk c.K (He.ga c.K x) (adr c.K (.meth x "__init__")) := He.mkr_ok (S.fact i _ h)
theorem Kq.prop (S : Kq fa fn cs c mg) (i : Nat) {x m : Str} (h : fa[i]? = some (.prop x m) := by rfl) : PropOf c.K (He.ga c.K x) m (He.ma c.K (He.ga c.K x) m) (adr c.K (.get x m)) := prop_ok (S.fact i _ h)
end
/-! ### defs as their callers know them -/
structure Dq (P : Program) (w : World) (c : Cl) (mg : Str → Option Value) (base : Heap) (d : DefQ) (k : Nat) (ps : List Str) (run : Fn) : Prop where
  ex : ∃ fd, FnOk P w c.K mg base (L2.CX P w) k (adr c.K d.at_) fd ps (spF c ps.length run) ∧ FunQ c.K d (adr c.K d.at_) fd
section
variable {P : Program} {w : World} {c : Cl} {mg : Str → Option Value} {base : Heap} {d : DefQ} {j k n : Nat} {ps N : List Str} {run : Fn} {fa : List Fq} {fn : List DefQ} {cs : List Str} {body : Sn}
theorem Dq.never (S : Kq fa fn cs c mg) (i : Nat) (h : fn[i]? = some d := by rfl) : Dq P w c mg base d k ps (fun _ _ => .stuck) := by
  obtain ⟨fd, F⟩ := S.defd i d h
  exact ⟨fd, fn_never, F⟩
theorem Dq.mono (D : Dq P w c mg base d j ps run) (h : j ≤ k) : Dq P w c mg base d k ps run := by
  obtain ⟨fd, h1, h2⟩ := D.ex
  exact ⟨fd, h1.mono h, h2⟩
theorem dq_ok (S : Kq fa fn cs c mg) (i : Nat) (hi : fn[i]? = some d) (hc : d.clo = []) (SC : FnScope N ps d.scope)
    (hb : ∀ (f : Addr) (cdv : Value) (A : Around) (outer : List Env) (s : Shared) (H : Hp) (E : XK), Room k (A.deeper (envOfC d.qual d.scope s.heap.objs.size f cdv)) → PSs (cxOf (L2.CX P w) P w c.K mg base N d.qual d.scope f cdv A outer s H E) d.body (liftS c (fun cls d _ H => E cls d H) body)) :
    Dq P w c mg base d (k + 1) ps (_root_.Q.fn N.length body) := by
  obtain ⟨fd, F⟩ := S.defd i d hi
  exact ⟨fd, fn_ok (F.funD hc) SC rfl (fun cdv A outer s H E hr => hb _ cdv A outer s H E hr), F⟩
theorem dqM_ok (S : Kq fa fn cs c mg) (i : Nat) (hi : fn[i]? = some d) (hc : d.clo = []) (SC : FnScope N ps d.scope)
    (hb : ∀ (f : Addr) (cdv : Value) (A : Around) (outer : List Env) (s : Shared) (H : Hp) (E : XK), Room k (A.deeper (envOfC d.qual d.scope s.heap.objs.size f cdv)) → PSs (cxOf (L2.CX P w) P w c.K mg base N d.qual d.scope f cdv A outer s H E) d.body (liftS c (fun cls d _ H => E cls d H) body)) :
    Dq P w c mg base d (k + 1) ps (fnM N.length body) := by
  obtain ⟨fd, F⟩ := S.defd i d hi
  exact ⟨fd, fnM_ok (F.funD hc) SC rfl (fun cdv A outer s H E hr => hb _ cdv A outer s H E hr), F⟩
end
/-- one way to bind positional values and keywords, no default used -/
theorem bndQ {K : PySem.W.Frag} {d : DefQ} {f : Addr} {fd : FuncData} {ps ks : List Str} {ix : List Ar} {np : Nat} (F : FunQ K d f fd) (hd : d.dfl = [])
    (h : ∀ (clo : List (Str × Addr)) (kV doc pm : Value) (an : Option Addr) (cdv ct : Value) (us ws : List Value), us.length = np → ws.length = ks.length → bindArgs (PySem.W.fnX d.name d.qual d.params d.body d.scope clo .none kV doc pm an cdv ct) ⟨us, ks.zip ws⟩ = pure (ps.zip (arr ix us ws []))) : Bnd K fd ps np ks ix [] := by
  obtain ⟨clo, oc, od, dV, kV, doc, pm, an, cdv, ct, osl, rfl, hcl, lk, k1, k2, k3⟩ := F.ex
  have e1 : d.dvs K = [] := by unfold DefQ.dvs; rw [hd]; rfl
  rw [e1] at k2
  rcases k2 with ⟨_, rfl⟩ | ⟨e, _⟩
  · exact ⟨fun s us ws _ l1 l2 => .of_eq (h clo kV doc pm an cdv ct us ws l1 l2)⟩
  · exact absurd rfl e
section
variable {X : Cx} {c : Cl} {W : WX} {E : XK} {k : Nat} {d : DefQ} {ps ks : List Str} {ix : List Ar} {run : Fn} {x : Str} {p pos : Pos} {e : Expr} {es : List Expr} {kws : List Keyword} {ra rk : Rn (List D)}
/-- f(e, ..), every parameter given by place -/
theorem s_d (m : Md X c W E) (F : Dq X.prog X.w c X.mg X.base d k ps run) (hr : Room k X.A) (hm : X.mg x = some (.ref (adr c.K d.at_))) (hd : d.dfl = [])
    (hb : ∀ (clo : List (Str × Addr)) (kV doc pm : Value) (an : Option Addr) (cdv ct : Value) (us : List Value), us.length = ps.length → bindArgs (PySem.W.fnX d.name d.qual d.params d.body d.scope clo .none kV doc pm an cdv ct) ⟨us, []⟩ = pure (ps.zip us)) (ha : PA X (e :: es) (liftA c W ra))
    (hg : Gl X x := by rfl) (hdb : (x == ("__debug__" : Str)) = false := by decide) (he : starEach (e :: es) X.env = (false, eval e X.env) :: starEach es X.env := by rfl) (hpl : (backTo pos (starEach es X.env)).any (·.1) = false := by rfl) :
    PE X (.Call (.Name x p) (e :: es) [] pos) (liftE c W (rCall ps.length run [] ra)) := by
  obtain ⟨fd, h1, h2⟩ := F.ex
  rw [m.k] at h1 h2 hm
  exact s_call m h1 hr hm h2.kp (h2.bindsN hd hb) ha hg hdb he hpl
theorem s_d0 (m : Md X c W E) (F : Dq X.prog X.w c X.mg X.base d k [] run) (hr : Room k X.A) (hm : X.mg x = some (.ref (adr c.K d.at_))) (hd : d.dfl = [])
    (hb : ∀ (clo : List (Str × Addr)) (kV doc pm : Value) (an : Option Addr) (cdv ct : Value) (us : List Value), us.length = 0 → bindArgs (PySem.W.fnX d.name d.qual d.params d.body d.scope clo .none kV doc pm an cdv ct) ⟨us, []⟩ = pure (([] : List Str).zip us))
    (hg : Gl X x := by rfl) (hdb : (x == ("__debug__" : Str)) = false := by decide) : PE X (.Call (.Name x p) [] [] pos) (liftE c W (rCall 0 run [] rNil)) := by
  obtain ⟨fd, h1, h2⟩ := F.ex
  rw [m.k] at h1 h2 hm
  exact s_call0 (n := 0) m h1 hr hm h2.kp (h2.bindsN hd hb) hg hdb
/-- f(e, .., k = ..): with defaults ds -/
theorem s_dK {ds : List D} (m : Md X c W E) (F : Dq X.prog X.w c X.mg X.base d k ps run) (hr : Room k X.A) (hm : X.mg x = some (.ref (adr c.K d.at_)))
    (B : ∀ fd, FunQ c.K d (adr c.K d.at_) fd → ∃ (dv : List Value) (dvs : List V), Vals dvs dv ∧ (∀ θ P, VRL c θ P ds dvs) ∧ Bnd c.K fd ps (e :: es).length ks ix dv) (ha : PA X (e :: es) (liftA c W ra)) (hkw : PK X kws (liftA c W rk))
    (hg : Gl X x := by rfl) (hdb : (x == ("__debug__" : Str)) = false := by decide) (hall : (backToKw pos (keywordEach kws X.env)).all (·.1.isSome) = true := by rfl) (hks : (backToKw pos (keywordEach kws X.env)).filterMap (·.1) = ks := by rfl)
    (he : starEach (e :: es) X.env = (false, eval e X.env) :: starEach es X.env := by rfl) (hpl : ((backTo pos (starEach (e :: es) X.env)).any (·.1) || (backToKw pos (keywordEach kws X.env)).any (·.1.isNone)) = false := by rfl) :
    PE X (.Call (.Name x p) (e :: es) kws pos) (liftE c W (rArgs (e :: es).length ks.length ps.length run ix ds ra rk)) := by
  obtain ⟨fd, h1, h2⟩ := F.ex
  obtain ⟨dv, dvs, b1, b2, b3⟩ := B fd h2
  rw [m.k] at h1 h2 hm b3
  exact s_callG m h1 hr hm h2.kp b3 b1 b2 ha hkw hg hdb hall hks he hpl
theorem s_dK0 {ds : List D} (m : Md X c W E) (F : Dq X.prog X.w c X.mg X.base d k ps run) (hr : Room k X.A) (hm : X.mg x = some (.ref (adr c.K d.at_)))
    (B : ∀ fd, FunQ c.K d (adr c.K d.at_) fd → ∃ (dv : List Value) (dvs : List V), Vals dvs dv ∧ (∀ θ P, VRL c θ P ds dvs) ∧ Bnd c.K fd ps 0 ks ix dv) (hkw : PK X kws (liftA c W rk))
    (hg : Gl X x := by rfl) (hdb : (x == ("__debug__" : Str)) = false := by decide) (hall : (backToKw pos (keywordEach kws X.env)).all (·.1.isSome) = true := by rfl) (hks : (backToKw pos (keywordEach kws X.env)).filterMap (·.1) = ks := by rfl)
    (hpl : ((backTo pos (starEach [] X.env)).any (·.1) || (backToKw pos (keywordEach kws X.env)).any (·.1.isNone)) = false := by rfl) :
    PE X (.Call (.Name x p) [] kws pos) (liftE c W (rArgs 0 ks.length ps.length run ix ds rNil rk)) := by
  obtain ⟨fd, h1, h2⟩ := F.ex
  obtain ⟨dv, dvs, b1, b2, b3⟩ := B fd h2
  rw [m.k] at h1 h2 hm b3
  exact s_callG0 m h1 hr hm h2.kp b3 b1 b2 hkw hg hdb hall hks hpl
/-- no default is used -/
theorem bnd_plain {np : Nat} (hd : d.dfl = []) (h : ∀ (clo : List (Str × Addr)) (kV doc pm : Value) (an : Option Addr) (cdv ct : Value) (us ws : List Value), us.length = np → ws.length = ks.length → bindArgs (PySem.W.fnX d.name d.qual d.params d.body d.scope clo .none kV doc pm an cdv ct) ⟨us, ks.zip ws⟩ = pure (ps.zip (arr ix us ws []))) :
    ∀ fd, FunQ c.K d (adr c.K d.at_) fd → ∃ (dv : List Value) (dvs : List V), Vals dvs dv ∧ (∀ θ P, VRL c θ P [] dvs) ∧ Bnd c.K fd ps np ks ix dv := fun fd F => ⟨[], [], .nil, fun _ _ => rfl, bndQ F hd h⟩
/-! ### makes -/
def rMk (n : Str) (np nk na : Nat) (run : Fn) (ix : List Ar) (es : List D) (a k : Rn (List D)) : Rn D := fun ρ M => (a ρ M).bind fun ds M1 => (k ρ M1).bind fun zs M2 =>
  rGuard (decide (ds.length = np ∧ zs.length = nk ∧ (arr ix (.ref M2.length :: ds) zs es).length = na)) ((run (arr ix (.ref M2.length :: ds) zs es) (M2 ++ [.inst n []])).bind fun d M3 => match d with
    | .non => .ok (.ref M2.length) M3
    | _ => .stuck)
theorem make_now {θ : List Addr} {P H : Hp} {M : MS} {Q : VK} {n : Str} {C : Addr} {na : Nat} {ds zs es : List D} {vs ws dvs : List V} {σ : L2.St} {a dx : Addr} (m : Md X c W E) (w : Wo c θ P H M) (r : VRL c θ P ds vs) (rz : VRL c θ P zs ws) (he : ∀ θ P, VRL c θ P es dvs) (hC : c.adr n = some C) (ha : H a = none) (hdx : H dx = none) (hne : dx ≠ a)
    (g : (arr ix (.ref M.length :: ds) zs es).length = na)
    (o : OutE c θ P H Q (fun cv dd H' => W cv dd σ H') ((run (arr ix (.ref M.length :: ds) zs es) (M ++ [.inst n []])).bind fun d M3 => match d with
      | .non => .ok (.ref M.length) M3
      | _ => .stuck)) :
    spF c na run (arr ix (.ref a :: vs) ws dvs) (upd (upd H dx (.own a)) a (.ins C dx [])) (fun v H2 => v = .non ∧ Q (.ref a) H2) E := by
  obtain ⟨w1, s1⟩ := w.junk (o := .own a) hdx
  have ha1 : upd H dx (.own a) a = none := by rw [upd_ne (Ne.symm hne)]; exact ha
  obtain ⟨w2, s2⟩ := w1.newM (o := .ins C dx []) (mo := .inst n []) ha1 ⟨C, dx, [], hC, upd_same, rfl⟩
  have s12 := s1.trans s2
  have lenE : M.length = θ.length := w.len.symm
  have self : VR c (θ ++ [a]) P (.ref M.length) (.ref a) := ⟨a, by rw [lenE]; exact get_last, rfl⟩
  refine ⟨_, _, _, _, w2, vrl_arr (as := .ref M.length :: ds) (vs := .ref a :: vs) ⟨_, vs, rfl, self, r.step s12⟩ (rz.step s12) (he _ _) ix, g, ?_⟩
  cases q : run (arr ix (.ref M.length :: ds) zs es) (M ++ [.inst n []]) with
  | stuck => rw [q] at o; exact o.elim
  | err nm fs M3 => rw [q] at o; exact fun cv dd H' θ' P' w' s' x => m.we _ _ _ _ (o cv dd H' θ' P' w' (s12.trans s') x)
  | ok v M3 =>
    rw [q] at o
    cases v with
    | non =>
      intro b H' θ' P' w' s' rb
      exact ⟨rb, o (.ref a) H' θ' P' w' (s12.trans s') (self.step s')⟩
    | _ => exact o.elim
/-- C(e, .., k = ..) -/
theorem s_mk {n : Str} {C : Addr} {ds : List D} (m : Md X c W E) (F : Dq X.prog X.w c X.mg X.base d k ps run) (hr : Room (k + 1) X.A) (hm : X.mg x = some (.ref C)) (hC : c.adr n = some C) (M : Mk c.K C (adr c.K d.at_))
    (B : ∀ fd, FunQ c.K d (adr c.K d.at_) fd → ∃ (dv : List Value) (dvs : List V), Vals dvs dv ∧ (∀ θ P, VRL c θ P ds dvs) ∧ Bnd c.K fd ps ((e :: es).length + 1) ks ix dv) (ha : PA X (e :: es) (liftA c W ra)) (hkw : PK X kws (liftA c W rk))
    (hg : Gl X x := by rfl) (hdb : (x == ("__debug__" : Str)) = false := by decide) (hall : (backToKw pos (keywordEach kws X.env)).all (·.1.isSome) = true := by rfl) (hks : (backToKw pos (keywordEach kws X.env)).filterMap (·.1) = ks := by rfl)
    (he : starEach (e :: es) X.env = (false, eval e X.env) :: starEach es X.env := by rfl) (hpl : ((backTo pos (starEach (e :: es) X.env)).any (·.1) || (backToKw pos (keywordEach kws X.env)).any (·.1.isNone)) = false := by rfl) :
    PE X (.Call (.Name x p) (e :: es) kws pos) (liftE c W (rMk n (e :: es).length ks.length ps.length run ix ds ra rk)) := by
  obtain ⟨fd, h1, h2⟩ := F.ex
  obtain ⟨dv, dvs, b1, b2, b3⟩ := B fd h2
  rw [m.k] at h1 h2 b3 M
  have KB : KBn X.K fd ps ((e :: es).length + 1) ks (fun us ws => arr ix us ws dv) (fun vs zs => arr ix vs zs dvs) := ⟨b3.to, fun r rz => vals_arr r rz b1 ix⟩
  refine PE.imp (pe_makeN (E := E) M h1 hr hg hm KB m.pass ha hkw hall hks hdb he hpl) fun σ H Q ⟨ρ, M, θ, P, w, er, o⟩ =>
    ⟨ρ, M, θ, P, w, er, Out.bind (R := RL c) o fun as M1 vs H1 θ1 P1 w1 s1 r1 o1 => ⟨ρ, M1, θ1, P1, w1, er.step s1, Out.bind (R := RL c) o1 fun zs M2 ws H2 θ2 P2 w2 s2 r2 o2 => ?_⟩⟩
  obtain ⟨g, o2⟩ := Out.guard (R := RV c) o2
  obtain ⟨g1, g2, g3⟩ := of_decide_eq_true g
  exact ⟨by rw [r1.length]; exact g1, by rw [r2.length]; exact g2, fun a dx ha hdx hne => make_now m w2 (r1.step s2) r2 b2 hC ha hdx hne g3 o2⟩
end
end Q

namespace Q
open PySem PySem.Spec PyProof.Rows L2 NdefX

/-! ### a method that says super() -/
noncomputable def fnS (k : Nat) (cn : Str) (body : Sn) : Fn := fun ds M => trim M (endF (body (ds.map some ++ ([some (.cls cn)] ++ List.replicate (k - ds.length - 1) none)) M))
theorem er_startF {c : Cl} {θ : List Addr} {P : Hp} {ds : List D} {vs : List V} {N : List Str} {cn : Str} {C : Addr} (r : VRL c θ P ds vs) (hC : c.adr cn = some C) : ER c θ P (ds.map some ++ ([some (.cls cn)] ++ List.replicate (N.length - ds.length - 1) none)) (startF N vs [some (.ref C)]) := by
  have hl := r.length
  unfold startF
  refine ⟨by simp [hl], fun i d e => ?_⟩
  by_cases q : i < ds.length
  · rw [List.getElem?_append_left (by simpa using q), List.getElem?_map] at e
    cases z : ds[i]? with
    | none => rw [z] at e; cases e
    | some x =>
      rw [z] at e
      cases e
      obtain ⟨v, e1, rv⟩ := r.get z
      exact ⟨v, by rw [List.getElem?_append_left (by simp [hl, q]), List.getElem?_map, e1]; rfl, rv⟩
  · rw [List.getElem?_append_right (by simpa using q), List.length_map] at e
    by_cases q2 : i = ds.length
    · subst q2
      rw [Nat.sub_self] at e
      cases e
      exact ⟨.ref C, by rw [List.getElem?_append_right (by simp [hl])]; simp [hl], C, hC, rfl⟩
    · rw [List.getElem?_append_right (by simp; omega), List.getElem?_replicate] at e
      split at e <;> cases e
structure Pg (P : Program) (file : Str) : Prop where
  file : P.main.file = file
  top : (P.main.scope.names.lookup ("super" : Str)).isSome = false
section
variable {P : Program} {w : World} {c : Cl} {mg : Str → Option Value} {base : Heap} {d : DefQ} {j k n : Nat} {ps N : List Str} {run : Fn} {fa : List Fq} {fn : List DefQ} {cs : List Str} {body : Sn} {cn file : Str}
theorem dqS_ok (S : Kq fa fn cs c mg) (G : Pg P file) (i : Nat) (hi : fn[i]? = some d) (hcl : d.clo = [("__class__" : Str)]) (SC : NScope N ps [("__class__" : Str)] d.scope) (hC : c.adr cn = some (He.ga c.K cn)) (hs : mg "super" = none) (hf : (Fq.self d.at_ cn file).ok c.K = true)
    (hb : ∀ (f cd cc : Addr) (A : Around) (outer : List Env) (s : Shared) (H : Hp) (E : XK), Room k (A.deeper (envF ⟨d.name, d.qual, d.params, d.body, d.scope, [(("__class__" : Str), cc)], cd⟩ f s.heap.objs.size)) →
      SupF (ncx (L2.CX P w) P w c.K mg base N ⟨d.name, d.qual, d.params, d.body, d.scope, [(("__class__" : Str), cc)], cd⟩ f A outer s H E) f cd cc (He.ga c.K cn) →
      PSsc (ncx (L2.CX P w) P w c.K mg base N ⟨d.name, d.qual, d.params, d.body, d.scope, [(("__class__" : Str), cc)], cd⟩ f A outer s H E) (.func d.body (envF ⟨d.name, d.qual, d.params, d.body, d.scope, [(("__class__" : Str), cc)], cd⟩ f s.heap.objs.size)) d.body (liftS c (fun cls d _ H => E cls d H) body)) :
    Dq P w c mg base d (k + 1) ps (fnS N.length cn body) := by
  obtain ⟨fd, F⟩ := S.defd i d hi
  refine ⟨fd, ⟨fun vs H Q E h => ?_, fun A outer s H args us vs Q E hr e0 hbd r hsp => ?_⟩, F⟩
  · obtain ⟨ds, M, θ, P, w, r, e, _⟩ := h
    rw [r.length, e]
  · obtain ⟨clo, oc, od, dV, kV, doc, pm, an, cdv, ct, osl, rfl, hclo, lk, hcd, k2, k3⟩ := F.ex
    have hsp0 := hsp
    obtain ⟨ds, M, θ, Pl, w0, rl, el, o⟩ := hsp
    have hl : vs.length = ps.length := by rw [rl.length, el]
    have hf0 : (selfB c.K d.at_ (He.ga c.K cn) file && ((PySem.W.clsIn c.K (He.ga c.K cn)).isSome && (decide (PySem.W.mroIn c.K (He.ga c.K cn) (.ref (He.ga c.K cn)) = some true) && He.eqO (PySem.W.nsIn c.K cStatics "thirdparty.any") (some none)))) = true := hf
    obtain ⟨f1, f2⟩ := He.ba hf0
    obtain ⟨f2, f3⟩ := He.ba f2
    obtain ⟨f3, f4⟩ := He.ba f3
    unfold selfB at f1
    rw [lk] at f1
    obtain ⟨cc, cd, rfl, rfl, fc, ff, fs⟩ := selfM_ok (clo := clo) (cdv := cdv) (params := d.params) f1
    obtain ⟨cl, cld, csl, lcc⟩ : ∃ cl cld csl, c.K.lookup cc = some ⟨cl, cld, .cell (some (.ref (He.ga c.K cn))), csl⟩ := by
      unfold cellB at fc
      split at fc
      · rename_i cl cld D csl q
        exact ⟨cl, cld, csl, by rw [q, of_decide_eq_true fc]⟩
      · cases fc
    obtain ⟨ccl, cdd, cvs, ccs, tf, lcd, hcv⟩ : ∃ ccl cdd vs ccs tf, c.K.lookup cd = some ⟨ccl, cdd, .fields vs, ccs⟩ ∧ vs[2]? = some (.str file tf) := by
      unfold fileB at ff
      split at ff
      · rename_i ccl cdd vs ccs q
        split at ff
        · rename_i z tf q2
          exact ⟨ccl, cdd, vs, ccs, tf, q, by rw [q2, of_decide_eq_true ff]⟩
        · cases ff
      · cases ff
    have KX : c.K.In s.heap := e0.mod.kin.keeps fun b o e => (e0.bs b o e).1
    have lim : s.heap.NoLimit := e0.mod.nolimit.keeps fun b o e => (e0.bs b o e).1
    have Hcc : H cc = none := (e0.bs cc _ (e0.mod.kin _ _ lcc)).2
    have one : ∀ {y : Str} {x : Addr}, ([(("__class__" : Str), cc)] : List (Str × Addr)).lookup y = some x → y = "__class__" ∧ x = cc := fun {y x} z => by
      by_cases q : y = "__class__"
      · subst q
        simp [List.lookup] at z
        exact ⟨rfl, z.symm⟩
      · have : (y == ("__class__" : Str)) = false := by simpa using q
        simp [List.lookup, this] at z
    have CA : CellsAt [(("__class__" : Str), cc)] [("__class__" : Str)] [some (.ref (He.ga c.K cn))] s.heap H := by
      refine ⟨rfl, fun y x z => ?_, fun y z x h1 h2 => (one h1).1.trans (one h2).1.symm, fun i y z => ?_⟩
      · obtain ⟨_, rfl⟩ := one z
        exact ⟨Hcc, _, _, KX _ _ lcc, rfl⟩
      · cases i with
        | succ i => simp at z
        | zero =>
          simp at z
          subst z
          refine ⟨cc, by simp [List.lookup], fun v hv => ?_⟩
          simp at hv
          subst hv
          exact ⟨.ref (He.ga c.K cn), rfl, _, KX _ _ lcc, rfl⟩
    refine codeAny_call_function hr.depth (KX _ _ lk) rfl SC.co SC.gen rfl (PySem.W.codeRec_of KX hcd) (hbd _ _ _ _ ?_)
    refine wpAny_newFunctionEnv SC.nocell (fun ⟨n, _⟩ hy => SC.par n (List.of_mem_zip hy).1) (fun h₁ hns hsb => ⟨lim.fresh _ hsb, ?_⟩) SC.kind
    show codeAny _ _ (.func d.body (envF ⟨d.name, d.qual, d.params, d.body, d.scope, [(("__class__" : Str), cc)], cd⟩ (adr c.K d.at_) s.heap.objs.size)) _ _
    refine PySem.ks_codeAny_funcAt ?_
    have kp : ∀ b o, s.heap.get? b = some o → h₁.get? b = some o := fun b o e => hsb.extBut b o (Nat.ne_of_lt (Heap.lt_size e)) (Heap.get?_push_of_some _ e)
    have SF : SupF (ncx (L2.CX P w) P w c.K mg base N ⟨d.name, d.qual, d.params, d.body, d.scope, [(("__class__" : Str), cc)], cd⟩ (adr c.K d.at_) A outer s H E) (adr c.K d.at_) cd cc (He.ga c.K cn) := {
      fn := let ⟨a, q1, q2⟩ := fs; ⟨_, _, _, _, a, lk, q1, q2⟩
      code := ⟨_, _, _, _, tf, lcd, by rw [hcv]; exact congrArg (fun z => some (Value.str z tf)) G.file.symm⟩
      cell := ⟨_, _, _, lcc⟩
      cls := Option.isSome_iff_exists.mp f2
      mro := of_decide_eq_true f3
      any := He.eqO_ok f4
      sup := hs
      top := G.top
      eF := rfl
      eC := rfl
      eK := by show ([(("__class__" : Str), cc)] : List (Str × Addr)).lookup ("__class__" : Str) = _; simp [List.lookup] }
    have I : Inv (ncx (L2.CX P w) P w c.K mg base N ⟨d.name, d.qual, d.params, d.body, d.scope, [(("__class__" : Str), cc)], cd⟩ (adr c.K d.at_) A outer s H E) [] (startF N vs [some (.ref (He.ga c.K cn))]) H { s with heap := h₁, toks := s.toks + (ps.zip us).length } := inv_startN SC hr.hd e0 hl r CA hns kp
    have body0 : liftS c (fun cls d _ H => E cls d H) body { nx := fun _ H' => Q .non H', rt := Q } (startF N vs [some (.ref (He.ga c.K cn))]) H := by
      refine ⟨_, M, θ, Pl, w0, er_startF (N := N) rl hC, ?_⟩
      have o' := Out.trim w0 o
      cases q : body (ds.map some ++ ([some (.cls cn)] ++ List.replicate (N.length - ds.length - 1) none)) M with
      | nx ρ M' => rw [q] at o'; exact fun σ' H' θ' P' w' s' _ => o' .non H' θ' P' w' s' rfl
      | rt d M' => rw [q] at o'; exact o'
      | err n fs ρ M' => rw [q] at o'; exact fun cv dd σ' H' θ' P' w' s' _ x => o' cv dd H' θ' P' w' s' x
      | bk ρ M' => rw [q] at o'; exact o'.elim
      | ct ρ M' => rw [q] at o'; exact o'.elim
      | stuck => rw [q] at o'; exact o'.elim
    refine PySem.ks_wpAt_mono ((hb _ cd cc A outer s H E (hr.deeper _) SF).run [] _ _ H _ I body0) (fun fl s' hs => ?_) fun e s' hs => hs
    have fin : ∀ {σ' : L2.St} {H' : Hp} {v : V} {u : Value}, Inv (ncx (L2.CX P w) P w c.K mg base N ⟨d.name, d.qual, d.params, d.body, d.scope, [(("__class__" : Str), cc)], cd⟩ (adr c.K d.at_) A outer s H E) [] σ' H' s' → L2.RelV v u → Q v H' → CE outer P w H s Q u s' :=
      fun {σ' H' v u} J rv q => ⟨v, H', J.os, J.bare, J.base, J.hok, rv, q⟩
    cases fl with
    | ret u =>
      obtain ⟨v, σ', H', J, rv, q⟩ := hs
      exact fin J rv q
    | next =>
      obtain ⟨σ', H', J, q⟩ := hs
      exact fin (v := V.non) (u := Value.none) J rfl q
    | brk =>
      obtain ⟨_, _, _, q⟩ := hs
      exact False.elim q
    | cont =>
      obtain ⟨_, _, _, q⟩ := hs
      exact False.elim q
theorem md_sup {E : XK} {F : NF} {f : Addr} {A : Around} {outer : List Env} {s : Shared} {H : Hp} : Md (ncx (L2.CX P w) P w c.K mg base N F f A outer s H E) c (fun cls d _ H => E cls d H) E := ⟨rfl, rfl, takes_of rfl rfl rfl rfl, fun _ _ _ _ h => h, fun _ _ _ _ h => h⟩
end
end Q

namespace Q
open PySem PySem.Spec PyProof.Rows L2

section
variable {X : Cx} {k : Code} {c : Cl} {W : WX} {E : XK}
/-- slices, the code known -/
theorem c_sl {e : Expr} {lo hi : Option Expr} {pos p2 : Pos} {ra : Rn D} {rl rh : Rn (Option Int)} (hK : c.K = X.K) (h : PEc X k e (liftE c W ra)) (hl : PO X lo (liftO c W rl)) (hh : PO X hi (liftO c W rh)) : PEc X k (.Subscript e (.Slice lo hi none p2) pos) (liftE c W (rSl ra rl rh)) := by
  refine ⟨fun pins s σ H Q I ⟨ρ, M, θ, P, w, er, o⟩ => ?_⟩
  rw [arm_eval_Subscript]
  refine _root_.PySem.wpAt_bind (PySem.ks_wpAt_mono (h.run pins s σ H (fun x H1 => tSl (rSlAll X.K) (fun _ H' Q' => Q' x H') (liftO c W rl) (liftO c W rh) σ H1 Q) I ⟨ρ, M, θ, P, w, er, Out.bind (R := RV c) o fun d M1 x H1 θ1 P1 w1 s1 r1 o1 =>
    ⟨ρ, M1, θ1, P1, w1, er.step s1, Out.bind (R := fun _ _ _ a b => b = a) o1 fun lo M2 lo' H2 θ2 P2 w2 s2 r2 o2 =>
      ⟨ρ, M2, θ2, P2, w2, (er.step s1).step s2, Out.bind (R := fun _ _ _ a b => b = a) o2 fun hi M3 hi' H3 θ3 P3 w3 s3 r3 o3 => by
        subst r2; subst r3
        rw [← hK]
        exact o_sl w3 ((r1.step s2).step s3) o3⟩⟩⟩) (fun v s1 q => ?_) fun _ _ z => z)
  obtain ⟨x, H1, I1, r1, q1⟩ := q
  refine _root_.PySem.wpAt_of_wpAny ?_
  refine wpAny_bind (wpAny_holding (wpAny_Slice (thn (hl.run pins s1 σ H1 _ I1 q1) fun vl s2 ⟨l, H2, I2, pl, q2⟩ => thn (hh.run pins s2 σ H2 _ I2 q2) fun vu s3 ⟨u, H3, I3, pu, q3⟩ => ?_)))
  rw [evalPart_none]
  refine wpAny_pure (wpAny_bind (wpAny_standAt ?_))
  have I4 : Inv X pins σ H3 { s3 with heap := s3.heap.push { cls := .type "slice", data := .fields #[vl, vu, .none] } } := I3.kept (t' := s3.toks) fun b ob q => Heap.get?_push_of_some _ q
  obtain ⟨T, id, hT, ht, hg⟩ := (SlR.or (sl_list (X := X)) (SlR.or sl_tupA sl_str)) pins { s3 with heap := s3.heap.push { cls := .type "slice", data := .fields #[vl, vu, .none] } } σ H3 x v vl vu l u s3.heap.objs.size Q I4 r1 (Heap.IsSliceOf.new ..) pl pu q3
  show wpAny (model X.prog X.w) X.A (subscriptTail e (.Slice lo hi none p2) v (.ref s3.heap.objs.size)) (EP X pins σ Q) X.xe { s3 with heap := s3.heap.push { cls := .type "slice", data := .fields #[vl, vu, .none] } }
  exact tail_any (ops := [.ref s3.heap.objs.size, v]) ht hT hg (by with_unfolding_all rfl)
/-! ### starred items -/
def starD (d : D) (M : MS) : Option (List D) := match d with
  | .tup xs => some xs
  | d => lstOf d M
def rStar (a : Rn D) (r : Rn (List D)) : Rn (List D) := fun ρ M => (a ρ M).bind fun d M1 => match starD d M1 with
  | some xs => (r ρ M1).bind fun ds M2 => .ok (xs ++ ds) M2
  | none => .stuck
theorem star_read {θ : List Addr} {P H : Hp} {M : MS} {d : D} {v : V} {xs : List D} (w : Wo c θ P H M) (rd : VR c θ P d v) (h : starD d M = some xs) : ∃ a vs, v = .ref a ∧ (SqT c.K H a vs ∨ SqL c.K H a vs) ∧ VRL c θ P xs vs := by
  by_cases q : ∃ ys, d = .tup ys
  · obtain ⟨ys, rfl⟩ := q
    cases h
    obtain ⟨a, vs, rfl, sq, rx⟩ := tup_read w rd
    exact ⟨a, vs, rfl, .inl sq, rx⟩
  · have h' : lstOf d M = some xs := by
      cases d with
      | tup ys => exact absurd ⟨ys, rfl⟩ q
      | _ => exact h
    obtain ⟨a, vs, rfl, sq, rx⟩ := lst_read w rd h'
    exact ⟨a, vs, rfl, .inr sq, rx⟩
theorem star_now {θ : List Addr} {P H : Hp} {M : MS} {ρ : Ev} {σ : L2.St} {d : D} {v : V} {r : Rn (List D)} {Q : List V → Hp → Prop} (w : Wo c θ P H M) (er : ER c θ P ρ σ) (rd : VR c θ P d v)
    (o : OutL c θ P H Q (fun cv dd H' => W cv dd σ H') (match starD d M with
      | some xs => (r ρ M).bind fun ds M2 => .ok (xs ++ ds) M2
      | none => .stuck)) : ∃ a xs, v = .ref a ∧ (SqT c.K H a xs ∨ SqL c.K H a xs) ∧ liftA c W r σ H fun vs H' => Q (xs ++ vs) H' := by
  cases q : starD d M with
  | none => simp only [q] at o; exact o.elim
  | some xs =>
    simp only [q] at o
    obtain ⟨a, vs, e, sq, rx⟩ := star_read w rd q
    exact ⟨a, vs, e, sq, ρ, M, θ, P, w, er, Out.bind (R := RL c) o fun ds M2 ws H2 θ2 P2 w2 s2 r2 o2 => Out.now (R := RL c) w2 o2 ((rx.step s2).append r2)⟩
theorem s_star {e : Expr} {es : List Expr} {p : Pos} {a : Rn D} {r : Rn (List D)} (hK : c.K = X.K) (ha : PE X e (liftE c W a)) (hr : PA X es (liftA c W r)) (hs : starEach (.Starred e p :: es) X.env = (true, eval e X.env) :: starEach es X.env := by rfl) : PA X (.Starred e p :: es) (liftA c W (rStar a r)) := by
  refine ⟨fun pos pins s σ H Q I ⟨ρ, M, θ, P, w, er, o⟩ => ?_⟩
  refine PySem.W.items_star (thn (ha.run pins s σ H (fun y H1 => ∃ a xs, y = .ref a ∧ (SqT X.K H1 a xs ∨ SqL X.K H1 a xs) ∧ liftA c W r σ H1 fun vs H' => Q (xs ++ vs) H') I ⟨ρ, M, θ, P, w, er, Out.bind (R := RV c) o fun d M1 v H1 θ1 P1 w1 s1 r1 o1 => by rw [← hK]; exact star_now w1 (er.step s1) r1 o1⟩) fun v s1 ⟨y, H1, I1, ry, a, xs, ey, hx, q⟩ => ?_) hs
  subst ey
  have hv : v = Value.ref a := ry
  subst hv
  exact StX.star_any I1 hx fun us s2 I2 rv => thn (hr.run pos pins s2 σ H1 _ I2 q) fun ws s3 ⟨vs, H3, I3, r3, q3⟩ => ⟨xs ++ vs, H3, I3, rv.append r3, q3⟩
structure PAc (X : Cx) (k : Code) (es : List Expr) (t : TA) : Prop where
  run : ∀ (pos : Pos) (pins : List (Addr × Obj)) (s : Shared) (σ : L2.St) (H : Hp) (Q : List V → Hp → Prop), Inv X pins σ H s → t σ H Q → WpC (model X.prog X.w) X.A k (spliced (backTo pos (starEach es X.env))) (AP X pins σ Q) X.xe s
theorem ac_cons {e : Expr} {es : List Expr} {a : Rn D} {r : Rn (List D)} (ha : PE X e (liftE c W a)) (hr : PAc X k es (liftA c W r)) (hs : starEach (e :: es) X.env = (false, eval e X.env) :: starEach es X.env := by rfl) : PAc X k (e :: es) (liftA c W (rCons a r)) := by
  refine ⟨fun pos pins s σ H Q I ⟨ρ, M, θ, P, w, er, o⟩ => ?_⟩
  rw [hs]
  show WpC _ _ _ (spliced ((false, eval e X.env) :: backTo pos (starEach es X.env))) _ _ _
  rw [spliced]
  refine _root_.PySem.wpAt_bind (_root_.PySem.wpAt_of_wpAny (thn (ha.run pins s σ H (fun v H1 => liftA c W r σ H1 fun vs H' => Q (v :: vs) H') I ⟨ρ, M, θ, P, w, er, Out.bind (R := RV c) o fun d M1 v H1 θ1 P1 w1 s1 r1 o1 =>
    ⟨ρ, M1, θ1, P1, w1, er.step s1, Out.bind (R := RL c) o1 fun ds M2 vs H2 θ2 P2 w2 s2 r2 o2 => Out.now (R := RL c) w2 o2 ⟨v, vs, rfl, r1.step s2, r2⟩⟩⟩) fun u s1 ⟨v, H1, I1, rv, q⟩ => ?_))
  simp only [Bool.false_eq_true, if_false]
  refine _root_.PySem.wpAt_bind (_root_.PySem.wpAt_of_wpAny (wpAny_pure ?_))
  refine _root_.PySem.wpAt_bind (PySem.ks_wpAt_holding (PySem.ks_wpAt_mono (hr.run pos pins s1 σ H1 _ I1 q) (fun us s2 z => ?_) fun _ _ z => z))
  obtain ⟨vs, H2, I2, r2, q2⟩ := z
  exact _root_.PySem.wpAt_of_wpAny (wpAny_pure ⟨v :: vs, H2, I2, .cons rv r2, q2⟩)
theorem ac_star {e : Expr} {es : List Expr} {p : Pos} {a : Rn D} {r : Rn (List D)} (hK : c.K = X.K) (ha : PEc X k e (liftE c W a)) (hr : PA X es (liftA c W r)) (hs : starEach (.Starred e p :: es) X.env = (true, eval e X.env) :: starEach es X.env := by rfl) : PAc X k (.Starred e p :: es) (liftA c W (rStar a r)) := by
  refine ⟨fun pos pins s σ H Q I ⟨ρ, M, θ, P, w, er, o⟩ => ?_⟩
  rw [hs]
  show WpC _ _ _ (spliced ((true, do let v ← eval e X.env; standAt pos; pure v) :: backTo pos (starEach es X.env))) _ _ _
  rw [spliced]
  refine _root_.PySem.wpAt_bind (_root_.PySem.wpAt_bind (PySem.ks_wpAt_mono (ha.run pins s σ H (fun y H1 => ∃ a xs, y = .ref a ∧ (SqT X.K H1 a xs ∨ SqL X.K H1 a xs) ∧ liftA c W r σ H1 fun vs H' => Q (xs ++ vs) H') I ⟨ρ, M, θ, P, w, er, Out.bind (R := RV c) o fun d M1 v H1 θ1 P1 w1 s1 r1 o1 => by rw [← hK]; exact star_now w1 (er.step s1) r1 o1⟩) (fun v s1 z => ?_) fun _ _ z => z))
  obtain ⟨y, H1, I1, ry, b, xs, ey, hx, q⟩ := z
  subst ey
  have hv : v = Value.ref b := ry
  subst hv
  refine _root_.PySem.wpAt_of_wpAny (wpAny_bind (wpAny_standAt (wpAny_pure (_root_.PySem.wpAt_of_wpAny ?_))))
  have S : PySem.W.StarOf (model X.prog X.w) X.A X.xe (.ref b) (fun us s2 => L2.Inv X pins σ H1 s2 ∧ Vals xs us) s1 := StX.star_any I1 hx fun us s2 I2 rv => ⟨I2, rv⟩
  unfold PySem.W.StarOf at S
  refine wpAny_bind (wpAny_mono S (fun bb s2 h2 => ?_) fun _ _ z => z)
  obtain ⟨rfl, h2⟩ := h2
  have zz := wpAny_mono h2 (fun here s3 h3 => (show wpAny (model X.prog X.w) X.A (holding here (spliced (backTo pos (starEach es X.env))) >>= fun r => pure (here ++ r)) (AP X pins σ Q) X.xe s3 from
    wpAny_bind (wpAny_holding (thn (hr.run pos pins s3 σ H1 _ h3.1 q) fun ws s4 ⟨vs, H4, I4, r4, q4⟩ => wpAny_pure ⟨xs ++ vs, H4, I4, h3.2.append r4, q4⟩)))) fun _ _ z => z
  try simp only [Bool.false_eq_true, if_false]
  first
    | exact wpAny_bind zz
    | exact zz
    | exact wpAny_bind (wpAny_pure zz)
theorem c_lst {es : List Expr} {pos : Pos} {a : Rn (List D)} (h : PAc X k es (liftA c W a)) : PEc X k (.List es pos) (liftE c W (rLst a)) := by
  refine ⟨fun pins s σ H Q I ⟨ρ, M, θ, P, w, er, o⟩ => ?_⟩
  rw [arm_eval_List]
  refine _root_.PySem.wpAt_bind (_root_.PySem.wpAt_of_wpAny (wpAny_standAt (_root_.PySem.wpAt_bind (PySem.ks_wpAt_mono (h.run pos pins s σ H (fun xs H1 => xs.length ≤ sizeLine ∧ ∀ p, H1 p = none → Q (.ref p) (upd H1 p (.lst xs))) I ⟨ρ, M, θ, P, w, er, Out.bind (R := RL c) o fun ds M1 vs H1 θ1 P1 w1 s1 r1 o1 => ?_⟩) (fun us s1 z => ?_) fun _ _ z => z))))
  · obtain ⟨g, o1⟩ := Out.guard (R := RV c) o1
    exact ⟨by rw [r1.length]; exact small_line g, fun p hp => new_lst w1 hp r1 o1⟩
  · obtain ⟨xs, H1, I1, r, zz, q⟩ := z
    refine _root_.PySem.wpAt_of_wpAny (wpAny_newList ?_ (by rw [← r.length]; exact zz))
    have hf : H1 s1.heap.objs.size = none := I1.hok.fresh (Nat.le_refl _)
    exact ⟨.ref s1.heap.objs.size, upd H1 s1.heap.objs.size (.lst xs), I1.laid (t' := s1.toks) (fun b u e => Heap.get?_push_of_some _ e) (Nat.le_refl _) ⟨zz, us, 0, r, Heap.get?_push_size _ rfl⟩, rfl, q _ hf⟩
end
end Q

set_option maxHeartbeats 1000000
/-! Own exception classes over any built-in one: made as values. -/
namespace Q
open PySem PySem.Spec PyProof.Rows L2

/-! ### the classes above -/
/-- own classes, then those of tl -/
def endsIn (tl : List Value) : List Value → Bool
  | .ref _ :: r => endsIn tl r
  | l => l == tl
theorem endsIn_cases {tl : List Value} : ∀ l : List Value, endsIn tl l = true → (∃ z r, l = .ref z :: r ∧ endsIn tl r = true) ∨ l = tl
  | [], e => .inr (beq_iff_eq.mp e)
  | v :: r, e => by
    cases v with
    | ref z => exact .inl ⟨z, r, rfl, e⟩
    | _ => exact .inr (beq_iff_eq.mp e)
/-- a built-in exception class B with its mro tl -/
structure ExB (B newId initId : String) (tl : List Value) : Prop where
  base : ExcBaseFacts B newId initId tl
  pass : ∀ self, refuseLoop self "__setattr__" tl = pure ()
  obj : tl.contains (.type "object") = true
  ne : tl ≠ []
abbrev veT : List Value := [.type "ValueError", .type "Exception", .type "BaseException", .type "object"]
abbrev leT : List Value := [.type "LookupError", .type "Exception", .type "BaseException", .type "object"]
abbrev ieT : List Value := [.type "IndexError", .type "LookupError", .type "Exception", .type "BaseException", .type "object"]
theorem exb_ve : ExB "ValueError" "ValueError.__new__" "ValueError.__init__" veT := ⟨F.excBase_ValueError, fun self => by kernel_rfl, by decide +kernel, by simp⟩
theorem exb_le : ExB "LookupError" "LookupError.__new__" "LookupError.__init__" leT := ⟨F.excBase_LookupError, fun self => by kernel_rfl, by decide +kernel, by simp⟩
theorem exb_ie : ExB "IndexError" "IndexError.__new__" "IndexError.__init__" ieT := ⟨F.excBase_IndexError, fun self => by kernel_rfl, by decide +kernel, by simp⟩
section
variable {tl : List Value}
theorem ends_pass (hp : ∀ self, refuseLoop self "__setattr__" tl = pure ()) (self : Value) : ∀ l : List Value, endsIn tl l = true → refuseLoop self "__setattr__" l = pure ()
  | [], e => by
    rcases endsIn_cases [] e with ⟨_, _, q, _⟩ | q
    · cases q
    · rw [q]; exact hp self
  | v :: r, e => by
    rcases endsIn_cases (v :: r) e with ⟨z, r', q, h⟩ | q
    · obtain ⟨rfl, rfl⟩ := List.cons.inj q
      rw [PySem.refuseLoop_ref]
      exact ends_pass hp self r h
    · rw [q]; exact hp self
theorem ends_has (Y : String) : ∀ l : List Value, endsIn tl l = true → l.contains (.type Y) = tl.contains (.type Y)
  | [], e => by
    rcases endsIn_cases [] e with ⟨_, _, q, _⟩ | q
    · cases q
    · rw [q]
  | v :: r, e => by
    rcases endsIn_cases (v :: r) e with ⟨z, r', q, h⟩ | q
    · obtain ⟨rfl, rfl⟩ := List.cons.inj q
      rw [List.contains_cons, ends_has Y r h]
      rfl
    · rw [q]
theorem ends_ne (hn : tl ≠ []) : ∀ {l : List Value}, endsIn tl l = true → l.isEmpty = false
  | [], e => by
    rcases endsIn_cases [] e with ⟨_, _, q, _⟩ | q
    · cases q
    · exact absurd q.symm hn
  | _ :: _, _ => rfl
end
/-! ### the exceptions' attributes are stored -/
section
open Builtin Builtin.ObjectAttr PySem.W PySem.Calls PySem.HandSPX
variable {prog : Program} {w : World} {A : Around} {E : Value → Shared → Prop} {R : Result → Shared → Prop} {h0 : Heap} {g : Array GenState} {d : Drawn} {t : Nat} {os : OsState}
variable {B newId initId : String} {tl : List Value}
theorem set_first {K : Frag} {nm : Str} {tk : Tok} {v : Value} {x C : Addr} {fv : Array Value} {cd : ClassData} (XB : ExB B newId initId tl)
    (KX : K.In h0) (ex : h0.get? x = some { cls := .ref C, data := .fields fv }) (ec : clsIn K C = some cd) (em : endsIn tl cd.mro = true) (eh : cd.hasDict = true) (en : findIn K (.ref C) nm = some none)
    (go : ∀ h' tk' dx, (∀ b o, b ≠ x → h0.get? b = some o → h'.get? b = some o) → h0.objs.size ≤ dx → dx ≠ x → h'.get? x = some { cls := .ref C, dict := some dx, data := .fields fv } → h'.Ns1 dx (fun y => if y = nm then some v else none) → R (.ok (.ret .none)) ⟨h', g, d, tk', os⟩) :
    codeAny (model prog w) A (.call (.builtin "object.__setattr__") ⟨[.ref x, .str nm tk, v], []⟩) R ⟨h0, g, d, t, os⟩ := by
  have at_x : InstAt h0 x { cls := .ref C, data := .fields fv } C none := ⟨ex, rfl, rfl, trivial⟩
  have SF := F.store_object
  have n0 := ends_ne XB.ne em
  have has_o : cd.mro.contains (.type "object") = true := (ends_has "object" _ em).trans XB.obj
  have x_new : x ≠ h0.objs.size := Nat.ne_of_lt (Heap.lt_size ex)
  have sub : Looks (model prog w) h0 (isInstance (.ref x) (.type "object")) true := at_x.type.andThen (looks_mroIn KX (by unfold mroIn; rw [ec, Option.bind_some, if_neg (by rw [n0]; decide), has_o]))
  refine codeAny_call_builtin SF.slot.plain SF.entry (@check_slot (model prog w) _ _ ⟨h0, g, d, t, os⟩ "object.__setattr__" "object" "__setattr__" (.ref x) [.str nm tk, v] [] _ SF.kind SF.split sub (SF.args (.ref x) (.str nm tk) v) ?_)
  have l_mro : Looks (model prog w) h0 (mroOf (.ref C)) cd.mro := (looks_clsIn KX ec).andThen .now
  have l_no : Looks (model prog w) h0 (storeTaker? none) none := .now
  have l_cls : Looks (model prog w) h0 (classData C) cd := looks_clsIn KX ec
  rw [osa_eq, refuse_eq]
  refine wpAny_bind (wpAny_bind (at_x.type.at (wpAny_bind (l_mro.at ?_))))
  rw [ends_pass XB.pass _ _ em]
  refine wpAny_pure (wpAny_bind (at_x.type.at (wpAny_bind ((looks_findIn KX en).at (wpAny_bind (l_no.at ?_))))))
  show wpAny _ _ (storeInOwnDict (.ref x) (.ref C) (.str nm tk) nm v false) _ _ _
  obtain ⟨nm2, bs, mro, ns, qn, hd, sn, sb, ab, col, del⟩ := cd
  dsimp only at eh
  subst eh
  unfold storeInOwnDict ownDictForStores
  repeat (first | with_reducible refine PySem.HandSPX.store_in_new ?_ ?_ | with_reducible refine wpAny_loadPart_at ex ?_ | with_reducible refine l_cls.at ?_ | wp_step)
  · exact ⟨_, #[], _, (Heap.get?_update_ne _ _ _ _ x_new.symm).trans (Heap.get?_push_at rfl rfl), rfl, fun e he => absurd he (by simp), fun _ => rfl⟩
  · intro h' tk' hn' hs
    have e1 : (h0.push { cls := .type "dict", data := .dict #[] }).get? x = some { cls := .ref C, data := .fields fv } := Heap.get?_push_of_some _ ex
    refine go h' tk' h0.objs.size (fun b o hb ho => ?_) (Nat.le_refl _) x_new.symm ?_ hn'
    · exact (hs.2 b (Nat.ne_of_lt (Heap.lt_size ho))).trans ((Heap.get?_update_ne _ _ _ _ hb).trans (Heap.get?_push_of_some _ ho))
    · exact (hs.2 x x_new).trans (Heap.get?_update_self _ e1 rfl)
theorem set_more {K : Frag} {nm : Str} {tk : Tok} {v : Value} {x C dx : Addr} {fv : Array Value} {cd : ClassData} {m0 : Str → Option Value} {nl : List Str} (XB : ExB B newId initId tl)
    (KX : K.In h0) (ex : h0.get? x = some { cls := .ref C, dict := some dx, data := .fields fv }) (hns : h0.Ns1 dx m0) (hw : Within m0 nl) (hz : nl.length ≤ 1000) (ec : clsIn K C = some cd) (em : endsIn tl cd.mro = true) (eh : cd.hasDict = true) (en : findIn K (.ref C) nm = some none)
    (go : ∀ h' tk', (∀ b o, b ≠ dx → h0.get? b = some o → h'.get? b = some o) → h'.Ns1 dx (fun y => if y = nm then some v else m0 y) → R (.ok (.ret .none)) ⟨h', g, d, tk', os⟩) :
    codeAny (model prog w) A (.call (.builtin "object.__setattr__") ⟨[.ref x, .str nm tk, v], []⟩) R ⟨h0, g, d, t, os⟩ := by
  obtain ⟨oD, esD, epD, hoD, hdD, _⟩ := hns.count hw
  have at_x : InstAt h0 x { cls := .ref C, dict := some dx, data := .fields fv } C (some oD) := ⟨ex, rfl, rfl, hoD⟩
  have SF := F.store_object
  have n0 := ends_ne XB.ne em
  have has_o : cd.mro.contains (.type "object") = true := (ends_has "object" _ em).trans XB.obj
  have sub : Looks (model prog w) h0 (isInstance (.ref x) (.type "object")) true := at_x.type.andThen (looks_mroIn KX (by unfold mroIn; rw [ec, Option.bind_some, if_neg (by rw [n0]; decide), has_o]))
  refine codeAny_call_builtin SF.slot.plain SF.entry (@check_slot (model prog w) _ _ ⟨h0, g, d, t, os⟩ "object.__setattr__" "object" "__setattr__" (.ref x) [.str nm tk, v] [] _ SF.kind SF.split sub (SF.args (.ref x) (.str nm tk) v) ?_)
  have l_mro : Looks (model prog w) h0 (mroOf (.ref C)) cd.mro := (looks_clsIn KX ec).andThen .now
  have l_no : Looks (model prog w) h0 (storeTaker? none) none := .now
  have l_cls : Looks (model prog w) h0 (classData C) cd := looks_clsIn KX ec
  rw [osa_eq, refuse_eq]
  refine wpAny_bind (wpAny_bind (at_x.type.at (wpAny_bind (l_mro.at ?_))))
  rw [ends_pass XB.pass _ _ em]
  refine wpAny_pure (wpAny_bind (at_x.type.at (wpAny_bind ((looks_findIn KX en).at (wpAny_bind (l_no.at ?_))))))
  show wpAny _ _ (storeInOwnDict (.ref x) (.ref C) (.str nm tk) nm v false) _ _ _
  obtain ⟨nm2, bs, mro, ns, qn, hd, sn, sb, ab, col, del⟩ := cd
  dsimp only at eh
  subst eh
  unfold storeInOwnDict ownDictForStores
  repeat (first | with_reducible refine PySem.OEX.store_in_old hns hw hz ?_ | with_reducible refine wpAny_loadPart_at ex ?_ | with_reducible refine l_cls.at ?_ | wp_step)
  intro h' tk' hn' hs
  exact go h' tk' (fun b o hb ho => (hs.2 b hb).trans ho) hn'
end
/-! ### over the layer -/
/-- what the written part says of such a class -/
structure ExC (K : PySem.W.Frag) (tl : List Value) (newId : String) (C : Addr) : Prop where
  cls : ∃ nm q N bs bm sn sub ab col dd k0 k1 k2 k3 k5, K.lookup C = some (excClassObj nm q C N bs bm true sn sub ab col dd k0 k1 k2 k3 k5 newId) ∧ endsIn tl bm = true
  sa : PySem.W.findIn K (.ref C) "__setattr__" = some (some (.builtin "object.__setattr__"))
  kC : PySem.W.keepIn K (.ref C) = true
section
variable {X : Cx} {pins : List (Addr × Obj)} {σ : L2.St} {H : Hp} {s : Shared} {a C dx : Addr} {f : Str} {y : V} {u : Value} {fs : List (Str × V)} {Q : Unit → Shared → Prop} {E : Value → Shared → Prop} {A : Around}
variable {B newId initId : String} {tl : List Value}
theorem est_new (XB : ExB B newId initId tl) (T : ExC X.K tl newId C) (I : Inv X pins σ H s) (e : H a = some (exo a C none)) (hno : PySem.W.findIn X.K (.ref C) f = some none) (ry : RelV y u)
    (go : ∀ dx s', H dx = none → dx ≠ a → Inv X pins σ (upd (upd H dx (exd dx [(f, y)])) a (exo a C (some dx))) s' → Q () s') : wpAny (model X.prog X.w) A (setAttr (.ref a) f u) Q E s := by
  obtain ⟨nm, q, N, bs, bm, sn, sub, ab, col, dd, k0, k1, k2, k3, k5, eC, eb⟩ := T.cls
  have ec : PySem.W.clsIn X.K C = some { name := nm, bases := bs, mro := .ref C :: bm, ns := N, qualname := q, hasDict := true, slotNames := sn, subclasses := sub, abstract := ab, collection := col, hasDel := false } := by unfold PySem.W.clsIn; rw [eC]
  obtain ⟨t1, ho⟩ := exo_at I.hok e
  obtain ⟨h0, g, d, t, os⟩ := s
  refine PySem.W.set_plain I.kIn (ox := { cls := .ref C, dict := none, data := .fields #[.ref t1, .none, .none, .none, .bool false, .none] }) (od := none) ⟨ho, rfl, rfl, trivial⟩ T.sa ?_
  refine set_first XB I.kIn ho ec (show endsIn tl (.ref C :: bm) = true from eb) rfl hno (fun h' tk' dx k dn dne hx hn => ?_)
  have hnd : H dx = none := I.hok.fresh dn
  have nd : ∀ {b : Addr} {o : Obj}, h0.get? b = some o → b ≠ dx := fun {b o} q => Nat.ne_of_lt (Nat.lt_of_lt_of_le (Heap.lt_size q) dn)
  have na : ∀ {b : Addr}, H b = none → b ≠ a := fun {b} n z => by
    rw [z, e] at n
    cases n
  have U : Un X.fs [] H (upd (upd H dx (exd dx [(f, y)])) a (exo a C (some dx))) h0 h' := {
    keep := fun b o q n _ _ => k b o (na n) q
    slot := fun b o q n _ _ => ⟨o.slots, k b o (na n) q⟩
    free := fun b o q n _ => by rw [upd_ne (na n), upd_ne (nd q)]; exact n
    there := fun b o q _ => by
      by_cases hb : b = a
      · exact ⟨_, by rw [hb]; exact hx⟩
      · exact ⟨o, k b o hb q⟩
    tups := fun b xs q => by rw [upd_ne (at_ne e q exo_tup), upd_ne (ne_of_none q hnd)]; exact q
    frzs := fun b o v q => by rw [upd_ne (at_ne e q exo_frz), upd_ne (ne_of_none q hnd)]; exact q
    tbls := fun b ps q => ⟨#[], by rw [upd_ne (at_ne e q exo_tbl), upd_ne (ne_of_none q hnd), q]; simp⟩ }
  refine go dx _ hnd dne (I.un (t' := tk') U fun b o q => ?_)
  by_cases hb : b = a
  · subst hb
    rw [upd_same] at q
    cases q
    exact exo_ok hx
  · rw [upd_ne hb] at q
    by_cases hd : b = dx
    · subst hd
      rw [upd_same] at q
      cases q
      exact exd_ok hn (relO_put (fs := []) ry fun g => True.intro)
    · rw [upd_ne hd] at q
      exact (I.hok b o q).stay (fun c v hc z => k c v (by
          rcases hc with hc | hc
          · rw [hc]
            exact hb
          · exact at_ne e hc exo_own) z)
        (fun c hc => by rw [upd_ne (at_ne e hc exo_own), upd_ne (ne_of_none hc hnd)]; exact hc) (fun c xs hc => by rw [upd_ne (at_ne e hc exo_tup), upd_ne (ne_of_none hc hnd)]; exact hc)
theorem est_more (XB : ExB B newId initId tl) (T : ExC X.K tl newId C) (I : Inv X pins σ H s) (e : H a = some (exo a C (some dx))) (ed : H dx = some (exd dx fs)) (hl : fs.length ≤ 900) (hno : PySem.W.findIn X.K (.ref C) f = some none) (ry : RelV y u)
    (go : ∀ s', Inv X pins σ (upd H dx (exd dx ((f, y) :: fs))) s' → Q () s') : wpAny (model X.prog X.w) A (setAttr (.ref a) f u) Q E s := by
  obtain ⟨nm, q, N, bs, bm, sn, sub, ab, col, dd, k0, k1, k2, k3, k5, eC, eb⟩ := T.cls
  have ec : PySem.W.clsIn X.K C = some { name := nm, bases := bs, mro := .ref C :: bm, ns := N, qualname := q, hasDict := true, slotNames := sn, subclasses := sub, abstract := ab, collection := col, hasDel := false } := by unfold PySem.W.clsIn; rw [eC]
  obtain ⟨t1, ho⟩ := exo_at I.hok e
  obtain ⟨mA, hns, rel⟩ := exd_at I.hok ed
  have hw := within_of rel
  obtain ⟨h0, g, d, t, os⟩ := s
  obtain ⟨oD, _, _, hoD, _, _⟩ := hns.count hw
  refine PySem.W.set_plain I.kIn (ox := { cls := .ref C, dict := some dx, data := .fields #[.ref t1, .none, .none, .none, .bool false, .none] }) (od := some oD) ⟨ho, rfl, rfl, hoD⟩ T.sa ?_
  refine set_more XB I.kIn ho hns hw (by rw [List.length_map]; omega) ec (show endsIn tl (.ref C :: bm) = true from eb) rfl hno (fun h' tk' k hn => ?_)
  have hd : ∃ o, h'.get? dx = some o := by
    obtain ⟨o, _, _, e', _⟩ := hn
    exact ⟨o, e'⟩
  exact go _ (I.write (t' := tk') (x := dx) (e := dx) (o := exd dx ((f, y) :: fs)) (by rw [ed]; exact True.intro) (.inl rfl) k hd (exd_ok hn (relO_put ry rel)))
/-- the base's __init__(self, ..) -/
theorem einit_ok {us : List Value} {Q : Value → Shared → Prop} (XB : ExB B newId initId tl) (T : ExC X.K tl newId C) (I : Inv X pins σ H s) (e : H a = some (exo a C none)) (hl : us.length ≤ sizeLine) (go : ∀ s', Inv X pins σ H s' → Q .none s') :
    wpAny (model X.prog X.w) A (call (.builtin initId) (.ref a :: us)) Q E s := by
  obtain ⟨nm, q, N, bs, bm, sn, sub, ab, col, dd, k0, k1, k2, k3, k5, eC, eb⟩ := T.cls
  obtain ⟨t1, ho⟩ := exo_at I.hok e
  obtain ⟨h0, g, d, t, os⟩ := s
  refine wpAny_call (PySem.HandSPX.init_base XB.base (fun Y => ends_has Y bm eb) (I.kIn _ _ eC) ho hl fun h' t2 k hx => ?_)
  have J := I.write (t' := t) (x := a) (e := a) (o := exo a C none) (by rw [e]; exact True.intro) (.inl rfl) k ⟨_, hx⟩ (exo_ok hx)
  have eu : upd H a (exo a C none) = H := by
    funext b
    by_cases hb : b = a
    · rw [hb, upd_same, e]
    · rw [upd_ne hb]
  rw [eu] at J
  exact go _ J
end
end Q

namespace Q
open PySem PySem.Spec PyProof.Rows L2

/-! ### the __init__ of an own exception class -/
/-- Base.__init__(self, ..) -/
def tBI (K : PySem.W.Frag) (tl : List Value) (newId : String) (ta : TA) : TE := fun σ H Q => ta σ H fun vs H1 => ∃ (a C : Addr) (ws : List V), vs = .ref a :: ws ∧ ws.length ≤ 1000 ∧ ExC K tl newId C ∧ H1 a = some (exo a C none) ∧ Q .non H1
/-- self.f = e -/
def tES (K : PySem.W.Frag) (tl : List Value) (newId : String) (f : Str) (to te : TE) : TS := fun D σ H => te σ H fun y H1 => to σ H1 fun x H2 => ∃ a C : Addr, x = .ref a ∧ ExC K tl newId C ∧ PySem.W.findIn K (.ref C) f = some none ∧
  ((H2 a = some (exo a C none) ∧ ∀ dx, H2 dx = none → dx ≠ a → D.nx σ (upd (upd H2 dx (exd dx [(f, y)])) a (exo a C (some dx)))) ∨
    ∃ (dx : Addr) (fs : List (Str × V)), H2 a = some (exo a C (some dx)) ∧ H2 dx = some (exd dx fs) ∧ fs.length ≤ 900 ∧ D.nx σ (upd H2 dx (exd dx ((f, y) :: fs))))
section
variable {X : Cx} {o e : Expr} {es : List Expr} {to te : TE} {ta : TA} {f bx : Str} {p p' p1 p2 pos : Pos} {B newId initId : String} {tl : List Value}
theorem binit_end {pins : List (Addr × Obj)} {σ : L2.St} {H : Hp} {s : Shared} {Q : VK} (XB : ExB B newId initId tl) (I : Inv X pins σ H s) (ha : PA X (e :: es) ta) (h : tBI X.K tl newId ta σ H Q)
    (he : starEach (e :: es) X.env = (false, eval e X.env) :: starEach es X.env) (hpl : (backTo pos (starEach es X.env)).any (·.1) = false) :
    wpAny (model X.prog X.w) X.A (callWith pos (Value.builtin initId) [] (backTo pos (starEach (e :: es) X.env)) []) (EP X pins σ Q) X.xe s := by
  refine PyProof.Rows.callWith_method1 (thn (ha.run pos pins _ σ H _ I h) fun us s1 ⟨vs, H1, I1, r1, a, C, ws, ev, hl, T, ea, q⟩ => ?_) he hpl
  subst ev
  cases r1 with
  | @cons _ u0 _ ur ra rw' =>
    have e0 : u0 = Value.ref a := ra
    subst e0
    have hlen : ur.length ≤ sizeLine := by
      rw [← Paired.length rw', sizeLine_eq]
      omega
    exact einit_ok XB T I1 ea hlen fun s' J => ⟨.non, H1, J, rfl, q⟩
/-- C.__init__(self, ..), C an own class -/
theorem pe_binit {Cq : Addr} {pl : Sem Bool} (XB : ExB B newId initId tl) (hg : Gl X bx) (hm : X.mg bx = some (.ref Cq)) (hr : PySem.W.readsIn X.K Cq (.type "type") = true) (hga : PySem.W.specialIn X.K (.ref Cq) "__getattribute__" = some (some (.builtin "type.__getattribute__")))
    (hv : PySem.W.findCls X.K (.ref Cq) (.type "type") "__init__" = some (.val (.builtin initId))) (hh : PySem.W.handedIn (.builtin initId) = true) (ha : PA X (e :: es) ta) (hd : (bx == ("__debug__" : Str)) = false := by decide)
    (hc : eval (.Call (.Attribute (.Name bx p1) "__init__" p2) (e :: es) [] pos) X.env = (do
      let ov ← eval (.Name bx p1) X.env
      standAt p2.atName
      let (f, first) ← holding [ov] (getMethod ov "__init__" pl)
      callWith pos f first (backTo pos (starEach (e :: es) X.env)) (backToKw pos (keywordEach [] X.env))) := by rfl)
    (he : starEach (e :: es) X.env = (false, eval e X.env) :: starEach es X.env := by rfl) (hpl : (backTo pos (starEach es X.env)).any (·.1) = false := by rfl) :
    PE X (.Call (.Attribute (.Name bx p1) "__init__" p2) (e :: es) [] pos) (tBI X.K tl newId ta) := by
  refine ⟨fun pins s σ H Q I h => ?_⟩
  refine PySem.W.methodCall_KW (ld_glob I hg hm ?_ hd) hc
  refine PySem.W.method_cls I.kIn hga (PySem.W.cls_value I.kIn hr hv hh ?_)
  exact binit_end XB (I.tok _) ha h he hpl
/-- B.__init__(self, ..), B a built-in class -/
theorem pe_tinit {pl : Sem Bool} (XB : ExB B newId initId tl) (hg : Gl X bx) (hm : X.mg bx = none) (hbt : bootBuiltins bx = some (.type B)) (hty : typeOf (.type B) = pure (.type "type")) (hst : Manifest.isStub B = false)
    (hv : PySem.W.findCls X.K (.type B) (.type "type") "__init__" = some (.val (.builtin initId))) (hh : PySem.W.handedIn (.builtin initId) = true) (ha : PA X (e :: es) ta) (hn : bx ≠ "__name__" := by decide) (hd : (bx == ("__debug__" : Str)) = false := by decide)
    (hc : eval (.Call (.Attribute (.Name bx p1) "__init__" p2) (e :: es) [] pos) X.env = (do
      let ov ← eval (.Name bx p1) X.env
      standAt p2.atName
      let (f, first) ← holding [ov] (getMethod ov "__init__" pl)
      callWith pos f first (backTo pos (starEach (e :: es) X.env)) (backToKw pos (keywordEach [] X.env))) := by rfl)
    (he : starEach (e :: es) X.env = (false, eval e X.env) :: starEach es X.env := by rfl) (hpl : (backTo pos (starEach es X.env)).any (·.1) = false := by rfl) :
    PE X (.Call (.Attribute (.Name bx p1) "__init__" p2) (e :: es) [] pos) (tBI X.K tl newId ta) := by
  refine ⟨fun pins s σ H Q I h => ?_⟩
  refine PySem.W.methodCall_KW (ld_blt I hg hm hbt ?_ hn hd) hc
  obtain ⟨m, fr⟩ := I.fr
  refine PySem.W.method_type fr I.ok.mod.kin hty hst hv hh ?_
  exact binit_end XB (I.tok _) ha h he hpl
theorem ps_es (XB : ExB B newId initId tl) (ho : PE X o to) (he : PE X e te) (hs : swapsWith e (some (.Attribute o f p')) pos.line X.env = pure false := by rfl) : PS X (.Assign [.Attribute o f p'] e pos) (tES X.K tl newId f to te) := by
  refine ⟨fun pins s σ H D I h => ?_⟩
  refine plainObj_wpAny_Assign_Attribute (thn (he.run pins s σ H _ I h) fun v s1 ⟨y, H1, I1, r1, q1⟩ => thn (ho.run pins s1 σ H1 _ I1 q1) fun u s2 ⟨x, H2, I2, r2, a, C, ex, T, hno, q⟩ => ?_) hs
  subst ex
  have e0 : u = Value.ref a := r2
  subst e0
  rcases q with ⟨ea, q⟩ | ⟨dx, fs, ea, ed, hl, q⟩
  · exact est_new XB T I2 ea hno r1 fun dx s' n ne J => ⟨σ, _, J, q dx n ne⟩
  · exact est_more XB T I2 ea ed hl hno r1 fun s' J => ⟨σ, _, J, q⟩
end
/-! ### what such an __init__ does -/
/-- np values behind self; mk: the fields, the last one first -/
def spI (K : PySem.W.Frag) (tl : List Value) (newId : String) (np : Nat) (ns : List Str) (mk : List V → List (Str × V)) : Sp := fun vs H Q E => ∃ (a C : Addr) (ws : List V), vs = .ref a :: ws ∧ ws.length = np ∧ ExC K tl newId C ∧ (∀ f ∈ ns, PySem.W.findIn K (.ref C) f = some none) ∧ H a = some (exo a C none) ∧
  ∀ dx, H dx = none → dx ≠ a → Q .non (upd (upd H dx (exd dx (mk ws))) a (exo a C (some dx)))
theorem upd_thru {H : Hp} {a dx : Addr} {u v w : HO} (h : dx ≠ a) : upd (upd (upd H dx u) a v) dx w = upd (upd H dx w) a v := by
  funext b
  by_cases q : b = dx
  · subst q
    rw [upd_same, upd_ne h, upd_same]
  · rw [upd_ne q]
    by_cases q2 : b = a
    · subst q2
      rw [upd_same, upd_same]
    · rw [upd_ne q2, upd_ne q2, upd_ne q, upd_ne q]
section
variable {K : PySem.W.Frag} {tl : List Value} {newId : String} {N : List Str} {f1 f2 : Str} {cd : V} {vs : List V} {H : Hp} {Q : VK} {E : XK} {z : V}
theorem init_0 (h : spI K tl newId 0 [("code" : Str)] (fun _ => [(("code" : Str), cd)]) vs H Q E) : tSeq (tDrop (tBI K tl newId (tCons (tVar 0) (tCons (tC z) tNil)))) (tES K tl newId "code" (tVar 0) (tC cd)) { nx := fun _ H' => Q .non H', rt := Q } (L2.start N vs) H := by
  obtain ⟨a, C, ws, rfl, hl, T, hno, ea, q⟩ := h
  have hw : ws = [] := List.length_eq_zero_iff.mp hl
  subst hw
  have s0 : (L2.start N [.ref a])[0]? = some (some (.ref a)) := rfl
  exact ⟨_, s0, a, C, [z], rfl, by simp, T, ea, _, s0, a, C, rfl, T, hno _ (by simp), .inl ⟨ea, fun dx n ne => q dx n ne⟩⟩
theorem init_1 (h : spI K tl newId 1 [("code" : Str), f1] (fun ws => (ws.map fun y => (f1, y)) ++ [(("code" : Str), cd)]) vs H Q E) : tSeq (tDrop (tBI K tl newId (tCons (tVar 0) (tCons (tC z) tNil)))) (tSeq (tES K tl newId "code" (tVar 0) (tC cd)) (tES K tl newId f1 (tVar 0) (tVar 1))) { nx := fun _ H' => Q .non H', rt := Q } (L2.start N vs) H := by
  obtain ⟨a, C, ws, rfl, hl, T, hno, ea, q⟩ := h
  obtain ⟨y, rfl⟩ : ∃ y, ws = [y] := by
    match ws, hl with
    | [y], _ => exact ⟨y, rfl⟩
  have s0 : (L2.start N [.ref a, y])[0]? = some (some (.ref a)) := rfl
  have s1 : (L2.start N [.ref a, y])[1]? = some (some y) := rfl
  refine ⟨_, s0, a, C, [z], rfl, by simp, T, ea, _, s0, a, C, rfl, T, hno _ (by simp), .inl ⟨ea, fun dx n ne => ?_⟩⟩
  refine ⟨_, s1, _, s0, a, C, rfl, T, hno _ (by simp), .inr ⟨dx, [(("code" : Str), cd)], upd_same, by rw [upd_ne ne, upd_same], by simp, ?_⟩⟩
  show Q .non _
  rw [upd_thru ne]
  exact q dx n ne
theorem init_2 (h : spI K tl newId 2 [("code" : Str), f1, f2] (fun ws => match ws with | [x, y] => [(f2, y), (f1, x), (("code" : Str), cd)] | _ => []) vs H Q E) : tSeq (tDrop (tBI K tl newId (tCons (tVar 0) (tCons (tC z) tNil)))) (tSeq (tES K tl newId "code" (tVar 0) (tC cd)) (tSeq (tES K tl newId f1 (tVar 0) (tVar 1)) (tES K tl newId f2 (tVar 0) (tVar 2)))) { nx := fun _ H' => Q .non H', rt := Q } (L2.start N vs) H := by
  obtain ⟨a, C, ws, rfl, hl, T, hno, ea, q⟩ := h
  obtain ⟨x, y, rfl⟩ : ∃ x y, ws = [x, y] := by
    match ws, hl with
    | [x, y], _ => exact ⟨x, y, rfl⟩
  have s0 : (L2.start N [.ref a, x, y])[0]? = some (some (.ref a)) := rfl
  have s1 : (L2.start N [.ref a, x, y])[1]? = some (some x) := rfl
  have s2 : (L2.start N [.ref a, x, y])[2]? = some (some y) := rfl
  refine ⟨_, s0, a, C, [z], rfl, by simp, T, ea, _, s0, a, C, rfl, T, hno _ (by simp), .inl ⟨ea, fun dx n ne => ?_⟩⟩
  refine ⟨_, s1, _, s0, a, C, rfl, T, hno _ (by simp), .inr ⟨dx, [(("code" : Str), cd)], upd_same, by rw [upd_ne ne, upd_same], by simp, ?_⟩⟩
  refine ⟨_, s2, _, s0, a, C, rfl, T, hno _ (by simp), .inr ⟨dx, [(f1, x), (("code" : Str), cd)], by rw [upd_ne (Ne.symm ne)]; exact upd_same, upd_same, by simp, ?_⟩⟩
  show Q .non _
  rw [upd_thru ne, upd_thru ne]
  exact q dx n ne
end
end Q

namespace Q
open PySem PySem.Spec PyProof.Rows L2

/-! ### raise C(e, ..) -/
def tMkE (C : Addr) (np : Nat) (mk : List V → List (Str × V)) (ta : TA) : L2.St → Hp → XK → Prop := fun σ H Q => ta σ H fun vs H1 => vs.length = np ∧ ∀ d, H1 d = none → Q (.ref C) (some d) (upd H1 d (.xd (mk vs)))
theorem del_back {H : Hp} {a d : Addr} {u : HO} {fs : List (Str × V)} (ha : H a = none) (hne : d ≠ a) : upd (del (upd (upd (upd H a u) d (exd d fs)) a (exo a a none)) a) d (.xd fs) = upd H d (.xd fs) := by
  funext b
  by_cases q : b = d
  · subst q
    rw [upd_same, upd_same]
  · rw [upd_ne q, upd_ne q]
    by_cases q2 : b = a
    · subst q2
      rw [del_same, ha]
    · rw [del_ne q2, upd_ne q2, upd_ne q, upd_ne q2]
theorem del_back2 {H : Hp} {a d : Addr} {u v w : HO} {x : HO} (ha : H a = none) (hne : d ≠ a) : upd (del (upd (upd (upd H a u) d v) a w) a) d x = upd H d x := by
  funext b
  by_cases q : b = d
  · subst q
    rw [upd_same, upd_same]
  · rw [upd_ne q, upd_ne q]
    by_cases q2 : b = a
    · subst q2
      rw [del_same, ha]
    · rw [del_ne q2, upd_ne q2, upd_ne q, upd_ne q2]
section
variable {X : Cx} {c : Cl} {W : WX} {E : XK} {e : Expr} {es : List Expr} {ta : TA} {p pos pos2 : Pos} {x : Str} {B newId initId : String} {tl : List Value} {C fI : Addr} {k np : Nat} {fd : FuncData} {ps : List Str} {ns : List Str} {mk : List V → List (Str × V)}
theorem pmk_e (XB : ExB B newId initId tl) (T : ExC X.K tl newId C) (hno : ∀ f ∈ ns, PySem.W.findIn X.K (.ref C) f = some none) (hR : Raises X (.ref C)) (iC : PySem.W.findIn X.K (.ref C) "__init__" = some (some (.ref fI))) (tI : PySem.W.typeIn X.K (.ref fI) = some (.type "function"))
    (F1 : FnOk X.prog X.w X.K X.mg X.base (L2.CX X.prog X.w) k fI fd ps (spI X.K tl newId np ns mk)) (hnp : np ≤ 100) (hr : Room (k + 1) X.A) (hb : Binds X.K fd ps []) (hx : Passes (L2.CX X.prog X.w) X E0) (hg : Gl X x) (hm : X.mg x = some (.ref C)) (ha : PA X (e :: es) ta)
    (hdb : (x == ("__debug__" : Str)) = false := by decide) (he : starEach (e :: es) X.env = (false, eval e X.env) :: starEach es X.env := by rfl) (hpl : (backTo pos (starEach es X.env)).any (·.1) = false := by rfl) :
    PMk X (.Call (.Name x p) (e :: es) [] pos) (tMkE C np mk ta) := by
  intro pins s σ H Q I h
  obtain ⟨nm, q, N, bs, bm, sn, sub, ab, col, dd, k0, k1, k2, k3, k5, eC, eb⟩ := T.cls
  refine wpAny_Call_Name_kw (ld_glob I hg hm ?_ hdb)
  refine PySem.W.callWith_K (h₀ := X.base) I.ok.mod.kin T.kC (thn (ha.run pos pins s σ H _ I h) fun us s1 ⟨vs, H1, I1, r1, hz, q1⟩ => ⟨I1.kIn, ?_⟩) he hpl
  show wpAny _ _ (call (.ref C) us) _ _ _
  obtain ⟨h0, g, dr, tk, os⟩ := s1
  have hsz : h0.objs.size ≤ h0.objs.size + 1 := Nat.le_succ _
  have hn : H1 (h0.objs.size + 1) = none := I1.hok.fresh hsz
  have kk : ∀ b o, h0.get? b = some o → ((h0.push (PySem.W.kdv_tup us)).push (PySem.HandSPX.excO C h0.objs.size)).get? b = some o := fun b o e => Heap.get?_push_of_some _ (Heap.get?_push_of_some _ e)
  have hget : ((h0.push (PySem.W.kdv_tup us)).push (PySem.HandSPX.excO C h0.objs.size)).get? (h0.objs.size + 1) = some (PySem.HandSPX.excO C h0.objs.size) := by heap_get
  have I2 : Inv X pins σ (upd H1 (h0.objs.size + 1) (exo (h0.objs.size + 1) C none)) ⟨(h0.push (PySem.W.kdv_tup us)).push (PySem.HandSPX.excO C h0.objs.size), g, dr, tk, os⟩ :=
    I1.laid (t' := tk) (a := h0.objs.size + 1) (o := exo (h0.objs.size + 1) C none) (h' := (h0.push (PySem.W.kdv_tup us)).push (PySem.HandSPX.excO C h0.objs.size)) kk hsz (exo_ok hget)
  have hq : spI X.K tl newId np ns mk (.ref (h0.objs.size + 1) :: vs) (upd H1 (h0.objs.size + 1) (exo (h0.objs.size + 1) C none)) (fun v H2 => v = .non ∧ ∃ (d : Addr) (fs : List (Str × V)), H2 (h0.objs.size + 1) = some (exo (h0.objs.size + 1) C (some d)) ∧ H2 d = some (exd d fs) ∧ H1 d = none ∧ Q (.ref C) (some d) (upd (del H2 (h0.objs.size + 1)) d (.xd fs))) E0 := by
    refine ⟨_, C, vs, rfl, hz, T, hno, upd_same, fun dx n ne => ⟨rfl, dx, mk vs, upd_same, by rw [upd_ne ne]; exact upd_same, by rw [upd_ne ne] at n; exact n, ?_⟩⟩
    rw [del_back2 hn ne]
    rw [upd_ne ne] at n
    exact q1 dx n
  have r2 : Vals (V.ref (h0.objs.size + 1) :: vs) (Value.ref (h0.objs.size + 1) :: us) := .cons rfl r1
  have hl : (Value.ref (h0.objs.size + 1) :: us ++ []).length = ps.length := by
    have e := r2.length
    rw [F1.len _ _ _ _ hq] at e
    rw [List.append_nil]
    exact e.symm
  have B0 := hb ⟨(h0.push (PySem.W.kdv_tup us)).push (PySem.HandSPX.excO C h0.objs.size), g, dr, tk, os⟩ (Value.ref (h0.objs.size + 1) :: us) I2.kIn hl
  rw [List.append_nil] at B0
  have hus : us.length ≤ sizeLine := by
    rw [← Paired.length r1, sizeLine_eq]
    omega
  refine wpAny_call (PySem.HandSPX.call_own XB.base (fun Y => ends_has Y bm eb) (I1.kIn _ _ eC) (PySem.W.looks_findIn I1.kIn iC) (fun self => PySem.W.bind_fn I1.kIn self tI) hus
    (codeAny_mono (F1.run _ X.stack _ _ ⟨Value.ref (h0.objs.size + 1) :: us, []⟩ (Value.ref (h0.objs.size + 1) :: us) _ _ E0 (hr.make C us []) (I2.env0.make C us []) B0 r2 hq) fun r s' hq' => ?_))
  cases r with
  | error er => exact hx pins σ _ _ er s' I2 hq'
  | ok fl =>
    cases fl with
    | ret u =>
      obtain ⟨v, H2, os2, bare2, un2, hok2, rv, ev, d, fs, ea, ed, hd1, q2⟩ := hq'
      subst ev
      obtain ⟨h2, g2, d2, t2, os'⟩ := s'
      exact ⟨rv, mk_end hR I1 hsz kk un2 hok2 os2 bare2 ea ed hd1 q2⟩
    | next => exact False.elim hq'
    | brk => exact False.elim hq'
    | cont => exact False.elim hq'
/-- what of the fields is known -/
def fieldsOf : List (Str × Option Nat × D) → List D → List (Str × D)
  | [], _ => []
  | (f, none, d) :: r, ds => (f, d) :: fieldsOf r ds
  | (f, some i, _) :: r, ds => match ds[i]? with
    | some x => (f, x) :: fieldsOf r ds
    | none => fieldsOf r ds
def rRaise (n : Str) (np : Nat) (mk : List D → List (Str × D)) (a : Rn (List D)) : Sn := fun ρ M => bindS (a ρ M) ρ fun ds M1 => if ds.length = np then .err n (mk ds) ρ M1 else .stuck
/-- the fields as data and as values go together -/
def MkRel (c : Cl) (mk : List V → List (Str × V)) (mkD : List D → List (Str × D)) : Prop := ∀ θ P ds vs, VRL c θ P ds vs → VRF c θ P (mkD ds) (mk vs)
theorem st_raise {n : Str} {mkD : List D → List (Str × D)} {ra : Rn (List D)} (hc : X.calm = true) (tk : Takes X W) (hC : c.adr n = some C) (hmk : MkRel c mk mkD) (h : PMk X e (tMkE C np mk (liftA c W ra))) : PS X (.Raise (some e) none pos) (liftS c W (rRaise n np mkD ra)) := by
  refine PS.imp (ps_raise hc tk h) fun D σ H ⟨ρ, M, θ, P, w, er, o⟩ => ⟨ρ, M, θ, P, w, er, OutS.bind (R := RL c) er o fun ds M1 vs H1 θ1 P1 w1 s1 r1 er1 o1 => ?_⟩
  by_cases q : ds.length = np
  · rw [if_pos q] at o1
    refine ⟨by rw [r1.length]; exact q, fun d hd => ?_⟩
    obtain ⟨w2, s2⟩ := w1.newP (o := .xd (mk vs)) hd
    exact o1 _ _ _ _ _ _ w2 s2 (er1.step s2) ⟨C, d, mk vs, hC, rfl, rfl, upd_same, hmk _ _ _ _ (r1.step s2)⟩
  · rw [if_neg q] at o1
    exact o1.elim
end
end Q

namespace Q
open PySem PySem.Spec PyProof.Rows L2

/-! ### try: .. except (A, B, C) as n: .. -/
theorem flying_keeps {B : Heap} {l : List Env} {e : Addr} {Z : Obj → Prop} {h h' : Heap} (f : HandSPX.FlyingZ B l e Z h) (k : ∀ b o, h.get? b = some o → h'.get? b = some o) : HandSPX.FlyingZ B l e Z h' := by
  obtain ⟨f1, f2, f3, oe, vs, T, oT, ts, he, hz, hd, h1, hnT, hTe, hT, hdT, h3⟩ := f
  exact ⟨fun b o z => k b o (f1 b o z), f2, f3.of_keeps fun b o z _ => ⟨o, k b o z, rfl⟩, oe, vs, T, oT, ts, k _ _ he, hz, hd, h1, hnT, hTe, k _ _ hT, hdT, h3⟩
def wAs3 (K : PySem.W.Frag) (cs : List Value) (i : Nat) (ts : Addr → Value → Option Addr → TS) (Wout : WX) (D : Ends) : WX := fun cls d σ H =>
  ∃ b, PySem.W.exmAny K cls cs = some b ∧ (b = true → ∀ a, H a = none → ts a cls d { nx := fun σ' H' => D.nx (σ'.set i none) H', rt := D.rt, bk := fun σ' H' => D.bk (σ'.set i none) H', ct := fun σ' H' => D.ct (σ'.set i none) H' } (σ.set i (some (.ref a))) H) ∧ (b = false → Wout cls d σ H)
section
variable {X : Cx} {x1 x2 x3 n : Str} {c1 c2 c3 : Value} {i kk : Nat} {body suite : List Stmt} {b₀ : Stmt} {np1 np2 np3 tp pos pos' : Pos} {tb : WX → TS} {ts : Addr → Value → Option Addr → TS} {Wout : WX}
theorem ld_names {x : Str} {c : Value} {np : Pos} {pins : List (Addr × Obj)} {σ : L2.St} {H : Hp} {s : Shared} {a : Addr} {pn : List (Addr × Obj)} {Q : Value → Shared → Prop} {E : Value → Shared → Prop} (hc : Names X x c) (S : Inv (X.suite a pn) pins σ H s) (q : Q c s) : wpAny (model X.prog X.w) (X.A.mark (some (.ref a))) (eval (.Name x np) X.env) Q E s := by
  obtain ⟨hg, hdbg, hm | ⟨hm, hv, hnn⟩⟩ := hc
  · exact ld_glob (X := X.suite a pn) S hg hm q hdbg
  · exact ld_blt (X := X.suite a pn) S hg hm hv q hnn hdbg
theorem ps_try3 (hs : X.stack = X.env :: X.outer) (hf : X.env.frame = some X.env.locals) (hN : X.N.Nodup) (hi : X.N[i]? = some n) (hln : X.env.kindOf n = some .local) (hc1 : Names X x1 c1) (hc2 : Names X x2 c2) (hc3 : Names X x3 c3) (tk : Takes X Wout)
    (hb : ∀ (W : WX) (pn : List (Addr × Obj)) (xe : Value → Shared → Prop), Takes (X.tr pn xe) W → PassesOwn (model X.prog X.w) X.A X.env xe → PSs (X.tr pn xe) body (tb W))
    (hsu : ∀ (a : Addr) (oe : Obj) (cls : Value) (d : Option Addr) (pn : List (Addr × Obj)), Zc cls d oe → (∃ vs, oe.data = .fields vs) → X.base.get? a = none → PSs (X.suite a ((a, oe) :: pn)) (b₀ :: suite) (ts a cls d))
    (he3 : starEach [.Name x1 np1, .Name x2 np2, .Name x3 np3] X.env = [(false, eval (.Name x1 np1) X.env), (false, eval (.Name x2 np2) X.env), (false, eval (.Name x3 np3) X.env)] := by rfl) :
    PS X (.Try body [.ExceptHandler (some (.Tuple [.Name x1 np1, .Name x2 np2, .Name x3 np3] kk tp)) (some n) (b₀ :: suite) pos'] [] [] pos) (fun D σ H => tb (wAs3 X.K [c1, c2, c3] i ts Wout D) D σ H) := by
  refine ⟨fun pins s σ H D I h => ?_⟩
  have ok := I.ok
  have frames_ : X.A.frames = some (X.env :: X.outer) := by rw [ok.frames, hs]
  have loc_n : Loc X.env.scope n := .inl hln
  refine wpAny_Try_except ?_
  refine wpAny_mono ((hb (wAs3 X.K [c1, c2, c3] i ts Wout D) (X.pn ++ pins) (fun e s₁ => wpAny (model X.prog X.w) X.A (noteFrame e X.env) (fun _ s₂ => wpAny (model X.prog X.w) X.A (setFlight e none) (fun _ s₃ =>
    wpAny (model X.prog X.w) X.A (handleBy e X.env [.ExceptHandler (some (.Tuple [.Name x1 np1, .Name x2 np2, .Name x3 np3] kk tp)) (some n) (b₀ :: suite) pos']) (SP X pins D) X.xe s₃) X.xe s₂) X.xe s₁) (fun u s' xx => ?_) PassesOwn.looking).run [] s σ H D (I.toTry _) h) (fun f s1 hsp => ?_) (fun e s1 he => he)
  · obtain ⟨a, B, sI, pins', σ', H', cls, d, rfl, J', nb, up, sky, na, os, ag, b, hb1, hyes, hno⟩ := xx
    have J : Inv X pins σ' H' sI := J'.ofTry ok
    have sky' : Sky B (X.env :: X.outer) a (Zc cls d) X.env.locals s'.heap := by rw [← hs]; exact sky
    show wpAny (model X.prog X.w) X.A (noteFrame (.ref a) X.env) _ _ _
    refine Sky.land Zc.steady frames_ hf sky' fun h3 fl3 up3 => ?_
    have J3 : Inv X pins σ' H' { s' with heap := h3 } := J.landed nb fl3.1 (up.trans up3) os ag
    obtain ⟨oe3, vs3, ge3, hz3, hd3⟩ := fl3.there
    have no_frame : ∀ {h : Heap} {o : Obj} {vs : Array Value}, h.FunFrames B (X.env :: X.outer) → h.get? a = some o → o.data = .fields vs → a ∉ frs (X.env :: X.outer) := fun {h o vs} ff e dd hm => by
      obtain ⟨_, o', e', hnf⟩ := ff.mem hm
      rw [e] at e'; cases e'
      exact hnf _ dd
    have nfr := no_frame fl3.2.2.1 ge3 hd3
    have nL : a ≠ X.env.locals := fun z => nfr (List.mem_filterMap.mpr ⟨X.env, List.mem_cons_self, by rw [hf, z]⟩)
    have nF : a ∉ X.fs := fun hm => by
      obtain ⟨e, he, q⟩ := List.mem_filterMap.mp hm
      exact nfr (List.mem_filterMap.mpr ⟨e, List.mem_cons_of_mem _ he, q⟩)
    have S3 := J3.suite ge3 hd3 na nL nF
    have no_base : X.base.get? a = none := by
      cases q : X.base.get? a with
      | none => rfl
      | some o =>
        have z := nb a o (J.bk a o q) (fun hm => by
          rcases List.mem_cons.mp (J.stkSub a hm) with z | z
          · exact nL z
          · exact nF z)
        rw [fl3.2.1] at z
        cases z
    refine wpAny_handleBy_cons (codeAny_handlers_test ?_) (by intro q; cases q)
    refine wpAny_Tuple_spliced ?_
    rw [he3]
    refine Calls.spliced_cons (ld_names hc1 S3 (Calls.spliced_cons (ld_names hc2 S3 (Calls.spliced_cons (ld_names hc3 S3 (Calls.spliced_nil ?_))))))
    refine ⟨by rw [sizeLine_eq]; simp, ?_⟩
    have kp : ∀ b o, h3.get? b = some o → (h3.push { cls := .type "tuple", data := .seq [c1, c2, c3].toArray }).get? b = some o := fun b o e => Heap.get?_push_of_some _ e
    have fl5 := flying_keeps fl3 kp
    have up5 : h3.UpToSlots (h3.push { cls := .type "tuple", data := .seq [c1, c2, c3].toArray }) := Heap.UpToSlots.of_keeps kp
    have LT : PySem.W.Looks (model X.prog X.w) (h3.push { cls := .type "tuple", data := .seq [c1, c2, c3].toArray }) (typeOf (.ref a)) cls := fun A Q E s k q => wpAny_typeOf_ref (k _ _ (kp _ _ ge3)) (by rw [hz3.1]; exact q)
    have LM := PySem.W.exm_tup3 (M := model X.prog X.w) (tp := h3.objs.size) (J3.kIn.keeps kp) LT (Heap.get?_push_size _ rfl) hb1
    refine LM.here ?_
    cases b with
    | true =>
      refine codeAny_handlers_suite_as ?_
      refine HandSPX.lands_againZ fl5 fun h4 fl4 up4 => ?_
      have J4 : Inv X pins σ' H' { s' with heap := h4 } := J.landed nb fl4.1 (((up.trans up3).trans up5).trans up4) os ag
      obtain ⟨oe4, vs4, ge4, hz4, hd4⟩ := fl4.there
      have S4 := J4.suite ge4 hd4 na nL nF
      refine store_ok (X := X.suite a ((a, oe4) :: (X.pn ++ pins))) (v := .ref a) S4 hN hi loc_n rfl (fun s5 S5 => ?_) (.inr hln)
      refine wpAny_mono ((hsu a oe4 cls d (X.pn ++ pins) hz4 ⟨_, hd4⟩ no_base).run [] s5 _ H' _ S5 (hyes rfl a na)) (fun f s6 hsp => ?_) (fun _ _ z => False.elim z)
      have fin : ∀ {σ6 : L2.St} {H6 : Hp} {Q : Shared → Prop}, Inv (X.suite a ((a, oe4) :: (X.pn ++ pins))) [] σ6 H6 s6 → (∀ s7, Inv X pins (σ6.set i none) H6 s7 → Q s7) →
          wpAny (model X.prog X.w) X.A (do bindName X.env n .none; unbindBehindTheSuite X.env n pos') (fun _ s7 => Q s7) X.xe s6 := fun {σ6 H6 Q} S6 hq => gone_ok (S6.unsuite ok) hN hi hln hq
      cases f with
      | next =>
        obtain ⟨σ6, H6, S6, q6⟩ := hsp
        exact fin S6 fun s7 J7 => ⟨_, _, J7, q6⟩
      | brk =>
        obtain ⟨σ6, H6, S6, q6⟩ := hsp
        exact fin S6 fun s7 J7 => ⟨_, _, J7, q6⟩
      | cont =>
        obtain ⟨σ6, H6, S6, q6⟩ := hsp
        exact fin S6 fun s7 J7 => ⟨_, _, J7, q6⟩
      | ret u =>
        obtain ⟨v6, σ6, H6, S6, r6, q6⟩ := hsp
        exact fin S6 fun s7 J7 => ⟨_, _, _, J7, r6, q6⟩
    | false =>
      show wpAny _ X.A (handleBy (.ref a) X.env []) _ _ _
      refine wpAny_handleBy_nil ?_
      obtain ⟨k1, k2, k3, oe, vs, T, oT, ts', he, hz, hd, h1, hr⟩ := id fl5
      unfold PySem.passOn
      refine wpAny_bind (wpAny_field he hd h1 ?_)
      rw [if_neg (show ¬ ((Value.ref T == Value.none) = true) from by simp)]
      have go_on : wpAny (model X.prog X.w) X.A (setFlight (.ref a) X.env.frame) (fun _ s4 => wpAny (model X.prog X.w) X.A (throw (.ref a) : Sem Flow) (SP X pins D) X.xe s4) X.xe { s' with heap := h3.push { cls := .type "tuple", data := .seq [c1, c2, c3].toArray } } := by
        rw [hf]
        refine HandSPX.setFlight_upZ fl5 fun h4 hh4 up4 => wpAny_throw (tk _ _ ?_)
        exact ⟨a, B, sI, pins, σ', H', cls, d, rfl, J, nb, ((up.trans up3).trans up5).trans up4, .inr (.inr (by rw [hs]; exact hh4)), na, os, ag, hno rfl⟩
      first
        | exact wpAny_bind (wpAny_pure (wpAny_bind go_on))
        | exact wpAny_bind go_on
  · cases f with
    | next =>
      obtain ⟨σ', H', J', q⟩ := hsp
      exact wpAny_execs_nil ⟨σ', H', J'.ofTry ok, q⟩
    | brk =>
      obtain ⟨σ', H', J', q⟩ := hsp
      exact ⟨σ', H', J'.ofTry ok, q⟩
    | cont =>
      obtain ⟨σ', H', J', q⟩ := hsp
      exact ⟨σ', H', J'.ofTry ok, q⟩
    | ret u =>
      obtain ⟨v, σ', H', J', r, q⟩ := hsp
      exact ⟨v, σ', H', J'.ofTry ok, r, q⟩
end
end Q

namespace Q
open PySem PySem.Spec PyProof.Rows L2

/-! ### x in a list or tuple of plain values -/
def flatD : D → Option V
  | .non => some .non
  | .bl b => some (.bl b)
  | .int i => some (.int i)
  | .str s => some (.str s)
  | _ => none
def flatL : List D → Option (List V)
  | [] => some []
  | d :: ds => match flatD d, flatL ds with
    | some v, some vs => some (v :: vs)
    | _, _ => none
theorem flat_read {c : Cl} {θ : List Addr} {P : Hp} {d : D} {v u : V} (r : VR c θ P d v) (h : flatD d = some u) : v = u ∧ flatV u = true := by
  cases d <;> first | (cases h; cases r; exact ⟨rfl, rfl⟩) | cases h
theorem flats_read {c : Cl} {θ : List Addr} {P : Hp} : ∀ {ds : List D} {vs us : List V}, VRL c θ P ds vs → flatL ds = some us → vs = us ∧ us.all flatV = true
  | [], vs, us, r, h => by cases h; cases r; exact ⟨rfl, rfl⟩
  | d :: ds, vs, us, ⟨v, q, e, ra, rb⟩, h => by
    subst e
    unfold flatL at h
    cases h1 : flatD d with
    | none => rw [h1] at h; cases h
    | some u =>
      cases h2 : flatL ds with
      | none => rw [h1, h2] at h; cases h
      | some us' =>
        rw [h1, h2] at h
        cases h
        obtain ⟨e1, f1⟩ := flat_read ra h1
        obtain ⟨e2, f2⟩ := flats_read rb h2
        subst e1 e2
        exact ⟨rfl, by simp [f1, f2]⟩
def opIn (neg : Bool) (d e : D) (M : MS) : Res D := match flatD d, (starD e M).bind flatL with
  | some x, some xs => .ok (.bl (if neg then !inV x xs else inV x xs)) M
  | _, _ => .stuck
theorem o_in {c : Cl} {neg : Bool} : Op2 c (rIn c.K neg) (opIn neg) := fun θ P H M d e x y Q Wx w rd re o => by
  unfold opIn at o
  cases h1 : flatD d with
  | none => simp only [h1] at o; exact o.elim
  | some u =>
    cases h2 : starD e M with
    | none => simp only [h1, h2, Option.bind_none] at o; exact o.elim
    | some ds =>
      cases h3 : flatL ds with
      | none => simp only [h1, h2, Option.bind_some, h3] at o; exact o.elim
      | some us =>
        simp only [h1, h2, Option.bind_some, h3] at o
        obtain ⟨rfl, f1⟩ := flat_read rd h1
        obtain ⟨a, vs, rfl, sq, rl⟩ := star_read w re h2
        obtain ⟨rfl, f2⟩ := flats_read rl h3
        exact ⟨a, vs, rfl, sq.symm, f1, f2, Out.now (R := RV c) w o rfl⟩
/-! ### a value under a handled exception, and back -/
mutual
def calmD : D → Prop
  | .exn _ _ => False
  | .lam _ _ => False
  | .lamI _ => False
  | .tup l => calmL l
  | .lst l => calmL l
  | .scr l => calmL l
  | .obj _ fs => calmF fs
  | .dic _ kvs => calmK kvs
  | _ => True
def calmL : List D → Prop
  | [] => True
  | d :: ds => calmD d ∧ calmL ds
def calmF : List (Str × D) → Prop
  | [] => True
  | (_, d) :: ds => calmD d ∧ calmF ds
def calmK : List (List Key × D) → Prop
  | [] => True
  | (_, d) :: ds => calmD d ∧ calmK ds
end
def calmO : MO → Prop
  | .lst ds => calmL ds
  | .inst _ fs => calmF fs
  | .dic _ kvs => calmK kvs
  | .dead => True
def calmM (M : MS) : Prop := ∀ mo ∈ M, calmO mo
/-- c' knows more than c -/
structure Cl.Le (c c' : Cl) : Prop where
  K : c'.K = c.K
  adr : c'.adr = c.adr
  lams : c'.lams = c.lams
  tabs : c'.tabs = c.tabs
  hot : ∀ x, c.hot = some x → c'.hot = some x
  own : ∀ x, c.own = some x → c'.own = some x
section
variable {c c' : Cl} {θ : List Addr} {P P' : Hp}
mutual
theorem VR.up (L : c.Le c') : ∀ {d : D} {v : V}, VR c θ P d v → VR c' θ P d v
  | .non, _, h => h
  | .bl _, _, h => h
  | .int _, _, h => h
  | .str _, _, h => h
  | .ty _, _, h => h
  | .cls _, _, h => by unfold VR at h ⊢; rw [L.adr]; exact h
  | .ref _, _, h => h
  | .tup _, _, ⟨a, vs, e, r, q⟩ => ⟨a, vs, e, by rw [L.K]; exact r, VRL.up L q⟩
  | .lst _, _, ⟨a, vs, e, r, q⟩ => ⟨a, vs, e, r, VRL.up L q⟩
  | .scr _, _, ⟨a, vs, e, r, q⟩ => ⟨a, vs, e, by rw [L.K]; exact r, VRL.up L q⟩
  | .obj _ _, _, ⟨a, C, dx, fv, e, k, r, q⟩ => ⟨a, C, dx, fv, e, by rw [L.adr]; exact k, r, VRF.up L q⟩
  | .exn _ _, _, ⟨a, oe, C, dx, fv, e, k, x, r, r', q⟩ => ⟨a, oe, C, dx, fv, e, by rw [L.adr]; exact k, x, r.imp id (L.hot _), r', VRF.up L q⟩
  | .lam _ _, _, ⟨f, t, e', cl, ws, e, k, x, y, C, q⟩ => ⟨f, t, e', cl, ws, e, by rw [L.lams]; exact k, x, y, C, VRL.up L q⟩
  | .lamI _, _, ⟨f, t, e', cl, e, k, o, x, y⟩ => ⟨f, t, e', cl, e, by rw [L.lams]; exact k, L.own _ o, x, y⟩
  | .dic _ _, _, ⟨a, kv, e, r, q⟩ => ⟨a, kv, e, r, VRM.up L q⟩
theorem VRL.up (L : c.Le c') : ∀ {d : List D} {v : List V}, VRL c θ P d v → VRL c' θ P d v
  | [], _, h => h
  | _ :: _, _, ⟨v, r, e, a, b⟩ => ⟨v, r, e, VR.up L a, VRL.up L b⟩
theorem VRF.up (L : c.Le c') : ∀ {d : List (Str × D)} {v : List (Str × V)}, VRF c θ P d v → VRF c' θ P d v
  | [], _, h => h
  | (_, _) :: _, _, ⟨v, r, e, a, b⟩ => ⟨v, r, e, VR.up L a, VRF.up L b⟩
theorem VRM.up (L : c.Le c') : ∀ {d : List (List Key × D)} {v : List (List Key × V)}, VRM c θ P d v → VRM c' θ P d v
  | [], _, h => h
  | (_, _) :: _, _, ⟨v, r, e, a, b⟩ => ⟨v, r, e, VR.up L a, VRM.up L b⟩
end
/-- c and c' have the same classes; P' has what P has, but for things of the ext kind -/
structure Calms (c c' : Cl) (P P' : Hp) : Prop where
  K : c'.K = c.K
  adr : c'.adr = c.adr
  P : ∀ b o, P b = some o → (∀ φ, o ≠ .ext φ) → P' b = some o
theorem rd_calm (h : ∀ b o, P b = some o → (∀ φ, o ≠ .ext φ) → P' b = some o) {a : Addr} {u : HO} (hu : ∀ φ, u ≠ .ext φ) : Rd P a u → Rd P' a u
  | .inl e => .inl (h _ _ e hu)
  | .inr ⟨o, e⟩ => .inr ⟨o, h _ _ e (fun _ z => by cases z)⟩
theorem dHO_ne {t : Bool} {kv : List (List Key × V)} (φ : Heap → Prop) : dHO t kv ≠ .ext φ := by
  unfold dHO; split <;> exact fun z => by cases z
mutual
theorem VR.calm (L : Calms c c' P P') : ∀ {d : D} {v : V}, VR c θ P d v → calmD d → VR c' θ P' d v
  | .non, _, h, _ => h
  | .bl _, _, h, _ => h
  | .int _, _, h, _ => h
  | .str _, _, h, _ => h
  | .ty _, _, h, _ => h
  | .cls _, _, h, _ => by unfold VR at h ⊢; rw [L.adr]; exact h
  | .ref _, _, h, _ => h
  | .tup _, _, ⟨a, vs, e, r, q⟩, k => ⟨a, vs, e, by rw [L.K]; exact r.imp (rd_calm L.P (fun _ z => by cases z)) id, VRL.calm L q k⟩
  | .lst _, _, ⟨a, vs, e, r, q⟩, k => ⟨a, vs, e, L.P _ _ r (fun _ z => by cases z), VRL.calm L q k⟩
  | .scr _, _, ⟨a, vs, e, r, q⟩, k => ⟨a, vs, e, by rw [L.K]; exact r.imp (rd_calm L.P (fun _ z => by cases z)) id, VRL.calm L q k⟩
  | .obj _ _, _, ⟨a, C, dx, fv, e, kk, r, q⟩, k => ⟨a, C, dx, fv, e, by rw [L.adr]; exact kk, L.P _ _ r (fun _ z => by cases z), VRF.calm L q k⟩
  | .exn _ _, _, _, k => False.elim k
  | .lam _ _, _, _, k => False.elim k
  | .lamI _, _, _, k => False.elim k
  | .dic _ _, _, ⟨a, kv, e, r, q⟩, k => ⟨a, kv, e, L.P _ _ r dHO_ne, VRM.calm L q k⟩
theorem VRL.calm (L : Calms c c' P P') : ∀ {d : List D} {v : List V}, VRL c θ P d v → calmL d → VRL c' θ P' d v
  | [], _, h, _ => h
  | _ :: _, _, ⟨v, r, e, a, b⟩, k => ⟨v, r, e, VR.calm L a k.1, VRL.calm L b k.2⟩
theorem VRF.calm (L : Calms c c' P P') : ∀ {d : List (Str × D)} {v : List (Str × V)}, VRF c θ P d v → calmF d → VRF c' θ P' d v
  | [], _, h, _ => h
  | (_, _) :: _, _, ⟨v, r, e, a, b⟩, k => ⟨v, r, e, VR.calm L a k.1, VRF.calm L b k.2⟩
theorem VRM.calm (L : Calms c c' P P') : ∀ {d : List (List Key × D)} {v : List (List Key × V)}, VRM c θ P d v → calmK d → VRM c' θ P' d v
  | [], _, h, _ => h
  | (_, _) :: _, _, ⟨v, r, e, a, b⟩, k => ⟨v, r, e, VR.calm L a k.1, VRM.calm L b k.2⟩
end
theorem MR.up (L : c.Le c') {H : Hp} {a : Addr} : ∀ {mo : MO}, MR c θ P H a mo → MR c' θ P H a mo
  | .lst _, ⟨vs, k1, k2⟩ => ⟨vs, k1, VRL.up L k2⟩
  | .inst _ _, ⟨C, dx, fv, k0, k1, k2⟩ => ⟨C, dx, fv, by rw [L.adr]; exact k0, k1, VRF.up L k2⟩
  | .dic _ _, ⟨kv, k1, k2⟩ => ⟨kv, k1, VRM.up L k2⟩
  | .dead, k => k
theorem MR.calm (L : Calms c c' P P') {H H' : Hp} {a : Addr} (hH : ∀ o, H a = some o → (∀ φ, o ≠ .ext φ) → H' a = some o) : ∀ {mo : MO}, MR c θ P H a mo → calmO mo → MR c' θ P' H' a mo
  | .lst _, ⟨vs, k1, k2⟩, k => ⟨vs, hH _ k1 (fun _ z => by cases z), VRL.calm L k2 k⟩
  | .inst _ _, ⟨C, dx, fv, k0, k1, k2⟩, k => ⟨C, dx, fv, by rw [L.adr]; exact k0, hH _ k1 (fun _ z => by cases z), VRF.calm L k2 k⟩
  | .dic _ _, ⟨kv, k1, k2⟩, k => ⟨kv, hH _ k1 dHO_ne, VRM.calm L k2 k⟩
  | .dead, ⟨o, k1, k2⟩, _ => ⟨o, hH _ k1 (fun φ z => k2 (.inl ⟨φ, z⟩)), k2⟩
theorem Wo.up (L : c.Le c') {H : Hp} {M : MS} (w : Wo c θ P H M) : Wo c' θ P H M := ⟨w.sub, w.len, fun l a mo e1 e2 => (w.cell l a mo e1 e2).up L, w.off, w.inj, w.there, by rw [L.tabs]; exact w.tabs, w.ptab⟩
theorem Wo.down (L : Calms c c' P P) (ht : c'.tabs = c.tabs) {H : Hp} {M : MS} (w : Wo c θ P H M) (k : calmM M) : Wo c' θ P H M :=
  ⟨w.sub, w.len, fun l a mo e1 e2 => (w.cell l a mo e1 e2).calm L (fun _ e _ => e) (k mo (List.mem_of_getElem? e2)), w.off, w.inj, w.there, by rw [ht]; exact w.tabs, w.ptab⟩
end
abbrev heat (c : Cl) (p : Addr × Obj) : Cl := { c with hot := some p }
section
variable {c : Cl} {p : Addr × Obj} {θ : List Addr} {P : Hp}
theorem heat_le (hc : c.hot = none) : c.Le (heat c p) := ⟨rfl, rfl, rfl, rfl, (fun x e => by rw [hc] at e; cases e), fun x e => e⟩
theorem heat_cool : Calms (heat c p) c P P := ⟨rfl, rfl, fun _ _ e _ => e⟩
theorem VR.heat (hc : c.hot = none) {d : D} {v : V} (h : VR c θ P d v) : VR (_root_.Q.heat c p) θ P d v := VR.up (heat_le hc) h
theorem VRL.heat (hc : c.hot = none) {d : List D} {v : List V} (h : VRL c θ P d v) : VRL (_root_.Q.heat c p) θ P d v := VRL.up (heat_le hc) h
theorem VRF.heat (hc : c.hot = none) {d : List (Str × D)} {v : List (Str × V)} (h : VRF c θ P d v) : VRF (_root_.Q.heat c p) θ P d v := VRF.up (heat_le hc) h
theorem VR.cool {d : D} {v : V} (h : VR (_root_.Q.heat c p) θ P d v) (k : calmD d) : VR c θ P d v := VR.calm heat_cool h k
theorem VRL.cool {d : List D} {v : List V} (h : VRL (_root_.Q.heat c p) θ P d v) (k : calmL d) : VRL c θ P d v := VRL.calm heat_cool h k
theorem VRF.cool {d : List (Str × D)} {v : List (Str × V)} (h : VRF (_root_.Q.heat c p) θ P d v) (k : calmF d) : VRF c θ P d v := VRF.calm heat_cool h k
theorem Wo.heat (hc : c.hot = none) {H : Hp} {M : MS} (w : Wo c θ P H M) : Wo (_root_.Q.heat c p) θ P H M := w.up (heat_le hc)
theorem Wo.cool {H : Hp} {M : MS} (w : Wo (_root_.Q.heat c p) θ P H M) (k : calmM M) : Wo c θ P H M := w.down heat_cool rfl k
end
/-! ### the handled exception's fields -/
section
variable {X : Cx} {c : Cl} {W : WX}
theorem getx_ok {pins : List (Addr × Obj)} {σ : L2.St} {H : Hp} {s : Shared} {a C dd : Addr} {oe : Obj} {n : Str} {fs : List (Str × V)} {v : V} {b : Bool} {E : Value → Shared → Prop} {Q : Value → Shared → Prop} (I : Inv X pins σ H s) (ha : s.heap.get? a = some oe) (x : XO oe C dd) (hd : H dd = some (.xd fs)) (T : XfC X.K C)
    (hno : PySem.W.findIn X.K (.ref C) n = some none) (l : fs.lookup n = some v) (go : ∀ u s', Inv X pins σ H s' → RelV v u → Q u s') : wpAny (model X.prog X.w) X.A (getAttr (.ref a) n b) Q E s := by
  obtain ⟨z, vs, hv⟩ := x
  obtain ⟨mA, hns, hr⟩ : ∃ mA, s.heap.Ns1 dd mA ∧ ∀ f, RelO (fs.lookup f) (mA f) := I.hok dd (.xd fs) hd
  obtain ⟨od, ho, hl⟩ := lookIn_ns hns
  obtain ⟨u, hu, ru⟩ := RelO.some_of (v := v) (o := mA n) (by rw [← l]; exact hr n)
  have J : PySem.W.InstAt s.heap a oe C (some od) := ⟨ha, z.1, by unfold PySem.W.notCls; rw [hv], by rw [z.2]; exact ho⟩
  exact HandSPX.exc_get I.kIn J T.ga T.gg T.exC (PySem.W.findObj_own T.hdC hno rfl (by rw [hl, hu])) (handed_of ru) (go u _ (I.tok _) ru)
def XfOk (c : Cl) (ns : List Str) (f : Str) : Prop := ∀ n ∈ ns, ∀ C, c.adr n = some C → XfC c.K C ∧ PySem.W.findIn c.K (.ref C) f = some none
def opXf (ns : List Str) (f : Str) (d : D) (M : MS) : Res D := match d with
  | .exn n fs => rGuard (ns.contains n) (match fs.lookup f with
    | some x => .ok x M
    | none => .stuck)
  | _ => .stuck
/-- e.f, e an exception that stands or the handled one -/
theorem s_xf {ns : List Str} {e : Expr} {f : Str} {pos : Pos} {a : Rn D} (hK : c.K = X.K) (hh : ∀ p, c.hot = some p → p ∈ X.pn) (T : XfOk c ns f) (h : PE X e (liftE c W a)) (hb : attributeBase e f X.env (eval e X.env) = eval e X.env := by rfl) : PE X (.Attribute e f pos) (liftE c W (rU (opXf ns f) a)) := by
  refine ⟨fun pins s σ H Q I ⟨ρ, M, θ, P, w, er, o⟩ => ?_⟩
  refine attr_of hb (thn (h.run pins s σ H (fun v H1 => ∃ a oe C d fv y, v = .ref a ∧ XO oe C d ∧ (H1 a = some (exq a oe) ∨ (a, oe) ∈ X.pn) ∧ H1 d = some (.xd fv) ∧ XfC X.K C ∧ PySem.W.findIn X.K (.ref C) f = some none ∧ fv.lookup f = some y ∧ Q y H1) I ⟨ρ, M, θ, P, w, er, Out.bind (R := RV c) o fun d M1 v H1 θ1 P1 w1 s1 r1 o1 => ?_⟩) fun u s1 hq => ?_)
  · unfold opXf at o1
    cases d with
    | exn n fs =>
      obtain ⟨g, o1⟩ := Out.guard (R := RV c) o1
      obtain ⟨a, oe, C, d, fv, rfl, k, x, r, r', q⟩ := r1
      cases q2 : fs.lookup f with
      | none => simp only [q2] at o1; exact o1.elim
      | some y =>
        simp only [q2] at o1
        obtain ⟨v, l, rv⟩ := (VRF.lookup q).2 y q2
        obtain ⟨t1, t2⟩ := T n (List.contains_iff_mem.mp g) C k
        rw [hK] at t1 t2
        exact ⟨a, oe, C, d, fv, v, rfl, x, r.imp (w1.sub _ _) (hh _), w1.sub _ _ r', t1, t2, l, Out.now (R := RV c) w1 o1 rv⟩
    | _ => exact o1.elim
  · obtain ⟨v, H1, I1, rv, a, oe, C, d, fv, y, rfl, x, at_, hd, t1, t2, l, q⟩ := hq
    have hu : u = Value.ref a := rv
    subst hu
    have ga : s1.heap.get? a = some oe := by
      rcases at_ with at_ | at_
      · have z : s1.heap.get? a = some oe ∧ _ := I1.hok a (exq a oe) at_
        exact z.1
      · exact (I1.pin (a, oe) (List.mem_append_left _ at_)).1
    exact getx_ok I1 ga x hd t1 t2 l fun u s' I' ru => ⟨y, H1, I', ru, q⟩
end
end Q

namespace Q
open PySem PySem.Spec PyProof.Rows L2 L2H

/-! ### defs that are called while an exception is handled -/
structure FnP (P : Program) (w : World) (K : PySem.W.Frag) (mg : Str → Option Value) (base : Heap) (k : Nat) (f : Addr) (fd : FuncData) (ps : List Str) (sp : Addr × Obj → Sp) : Prop where
  len : ∀ p vs H Q E, sp p vs H Q E → vs.length = ps.length
  run : ∀ (A : Around) (outer : List Env) (s : Shared) (H : Hp) (args : Args) (us : List Value) (vs : List V) (Q : VK) (E : XK) (p : Addr × Obj), RoomH k A → PinOk outer H s p → Env0 P w K mg base A outer s H → BindsTo s fd args (ps.zip us) → Vals vs us → sp p vs H Q E →
    codeAny (model P w) A (.call (.ref f) args) (CR (L2.CX P w) outer P w H s Q E) s
/-- its promise: the handled exception is p's -/
def spP (c : Cl) (n : Nat) (run : Fn) (p : Addr × Obj) : Sp := fun vs H Q _ => ∃ ds M θ P, Wo (heat c p) θ P H M ∧ VRL (heat c p) θ P ds vs ∧ ds.length = n ∧ OutE (heat c p) θ P H Q (fun _ _ _ => False) (run ds M)
structure Hq (P : Program) (w : World) (c : Cl) (mg : Str → Option Value) (base : Heap) (d : DefQ) (k : Nat) (ps : List Str) (run : Fn) : Prop where
  ex : ∃ fd, FnP P w c.K mg base k (adr c.K d.at_) fd ps (spP c ps.length run) ∧ FunQ c.K d (adr c.K d.at_) fd
section
variable {P : Program} {w : World} {c : Cl} {mg : Str → Option Value} {base : Heap} {d : DefQ} {j k n : Nat} {ps N : List Str} {run : Fn} {fa : List Fq} {fn : List DefQ} {cs : List Str} {body : Sn}
theorem hq_ok (S : Kq fa fn cs c mg) (i : Nat) (hi : fn[i]? = some d) (hc : d.clo = []) (SC : FnScope N ps d.scope)
    (hb : ∀ (f : Addr) (cdv : Value) (A : Around) (outer : List Env) (s : Shared) (H : Hp) (E : XK) (p : Addr × Obj), RoomH k (A.deeper (envOfC d.qual d.scope s.heap.objs.size f cdv)) → PSs (cxH (L2.CX P w) P w c.K mg base N d.qual d.scope f cdv A outer s H E p) d.body (liftS (heat c p) (fun _ _ _ _ => False) body)) :
    Hq P w c mg base d (k + 1) ps (_root_.Q.fn N.length body) := by
  obtain ⟨fd, F⟩ := S.defd i d hi
  refine ⟨fd, ⟨fun p vs H Q E h => ?_, fun A outer s H args us vs Q E p hr hpin e0 hbd r hsp => ?_⟩, F⟩
  · obtain ⟨ds, M, θ, P, w, r, e, _⟩ := h
    rw [r.length, e]
  · obtain ⟨oc, od, dV, kV, doc, pm, an, cdv, ct, osl, rfl, lk, hcd, _, _⟩ := (F.funD hc).ex
    obtain ⟨ds, M, θ, Pl, w0, rl, el, o⟩ := hsp
    have hl : vs.length = ps.length := by rw [rl.length, el]
    have KX : c.K.In s.heap := e0.mod.kin.keeps fun b o e => (e0.bs b o e).1
    have lim : s.heap.NoLimit := e0.mod.nolimit.keeps fun b o e => (e0.bs b o e).1
    have kinds : ∀ y ∈ ps.zip us, d.scope.names.lookup y.1 = some .local ∨ (d.scope.names.lookup y.1 = some .cell ∧ ((cellsFrom (s.heap.objs.size + 1) d.scope.names []).lookup y.1).isSome = true) := fun ⟨n, v⟩ hy => by
      rcases SC.par n (List.of_mem_zip hy).1 with q | q
      · exact .inl q
      · exact .inr ⟨q, PySem.W.cellsFrom_some _ _ _ (.inl q)⟩
    refine codeAny_call_function hr.depth (KX _ _ lk) rfl SC.co SC.gen rfl (PySem.W.codeRec_of KX hcd) (hbd _ _ _ _ ?_)
    refine wpAny_newFunctionEnv_cells SC.kind kinds fun env he s1 x => ?_
    subst he
    refine ⟨lim.keeps x.toInCall.keep, codeAny_func ?_⟩
    have I : L2.Inv (cxH (L2.CX P w) P w c.K mg base N d.qual d.scope (adr c.K d.at_) cdv A outer s H E p) [] (L2.start N vs) H s1 := inv_startH SC hpin e0 hl r x
    have t0 : liftS (heat c p) (fun _ _ _ _ => False) body { nx := fun _ H' => Q .non H', rt := Q } (L2.start N vs) H := by
      refine ⟨_, M, θ, Pl, w0, er_start rl, ?_⟩
      have o' := Out.trim w0 o
      cases q : body (ds.map some ++ List.replicate (N.length - ds.length) none) M with
      | nx ρ M' => rw [q] at o'; exact fun σ' H' θ' P' w' s' _ => o' .non H' θ' P' w' s' rfl
      | rt d M' => rw [q] at o'; exact o'
      | err n fs ρ M' => rw [q] at o'; exact fun cv dd σ' H' θ' P' w' s' _ x => o' cv dd H' θ' P' w' s' x
      | bk ρ M' => rw [q] at o'; exact o'.elim
      | ct ρ M' => rw [q] at o'; exact o'.elim
      | stuck => rw [q] at o'; exact o'.elim
    refine wpAny_mono ((hb _ cdv A outer s H E p (hr.deeper _)).run [] s1 (L2.start N vs) H _ I t0) (fun fl s' hs => ?_) fun e s' hs => hs
    have fin : ∀ {σ' : L2.St} {H' : Hp} {v : V} {u : Value}, L2.Inv (cxH (L2.CX P w) P w c.K mg base N d.qual d.scope (adr c.K d.at_) cdv A outer s H E p) [] σ' H' s' → RelV v u → Q v H' → CE outer P w H s Q u s' :=
      fun {σ' H' v u} J rv q => ⟨v, H', J.os, J.bare, J.base, J.hok, rv, q⟩
    cases fl with
    | ret u =>
      obtain ⟨v, σ', H', J, rv, q⟩ := hs
      exact fin J rv q
    | next =>
      obtain ⟨σ', H', J, q⟩ := hs
      exact fin (v := V.non) (u := Value.none) J rfl q
    | brk =>
      obtain ⟨_, _, _, q⟩ := hs
      exact False.elim q
    | cont =>
      obtain ⟨_, _, _, q⟩ := hs
      exact False.elim q
end
/-! ### such a call, in the suite -/
section
variable {X : Cx} {c : Cl} {W : WX} {k : Nat} {d : DefQ} {ps : List Str} {run : Fn} {x : Str} {p pos : Pos} {e : Expr} {es : List Expr} {ra : Rn (List D)} {h : Addr × Obj}
theorem s_hot (hK : c.K = X.K) (F : Hq X.prog X.w c X.mg X.base d k ps run) (hr : RoomH k X.A) (hp : h ∈ X.pn) (hm : X.mg x = some (.ref (adr c.K d.at_))) (hd : d.dfl = [])
    (hb : ∀ (clo : List (Str × Addr)) (kV doc pm : Value) (an : Option Addr) (cdv ct : Value) (us : List Value), us.length = ps.length → bindArgs (PySem.W.fnX d.name d.qual d.params d.body d.scope clo .none kV doc pm an cdv ct) ⟨us, []⟩ = pure (ps.zip us)) (ha : PA X (e :: es) (liftA (heat c h) W0 ra))
    (hx : Passes (L2.CX X.prog X.w) X E0) (hg : Gl X x := by rfl) (hdb : (x == ("__debug__" : Str)) = false := by decide) (he : starEach (e :: es) X.env = (false, eval e X.env) :: starEach es X.env := by rfl) (hpl : (backTo pos (starEach es X.env)).any (·.1) = false := by rfl) :
    PE X (.Call (.Name x p) (e :: es) [] pos) (liftE (heat c h) W0 (rCall ps.length run [] ra)) := by
  obtain ⟨fd, F1, F2⟩ := F.ex
  rw [hK] at F1 F2 hm
  refine ⟨fun pins s σ H Q I ⟨ρ, M, θ, P, w, er, o⟩ => ?_⟩
  refine wpAny_Call_Name_kw (ld_glob I hg hm ?_ hdb)
  refine PySem.W.callWith_K (h₀ := X.base) I.ok.mod.kin F2.kp (thn (ha.run pos pins s σ H (fun vs H1 => spP c ps.length run h vs H1 Q E0) I ⟨ρ, M, θ, P, w, er, Out.bind (R := RL (heat c h)) o fun ds M1 vs H1 θ1 P1 w1 s1 r1 o1 => ?_⟩) fun us s1 ⟨vs, H1, I1, r, q⟩ => ⟨I1.kIn, ?_⟩) he hpl
  · obtain ⟨g, o1⟩ := Out.guard (R := RV (heat c h)) o1
    exact ⟨ds ++ [], M1, θ1, P1, w1, by rw [List.append_nil]; exact r1, of_decide_eq_true g, o1⟩
  · have hl : us.length = ps.length := by rw [← r.length]; exact F1.len _ _ _ _ _ q
    have b := (F2.bindsN hd hb) s1 us I1.kIn (by rw [List.append_nil]; exact hl)
    rw [List.append_nil] at b
    have P1 := I1.pin h (List.mem_append_left _ hp)
    have hpin : PinOk X.stack H1 s1 h := ⟨P1.1, P1.2.1, fun z => (List.mem_cons.mp (I1.stkSub h.1 z)).elim P1.2.2.1 P1.2.2.2.1, P1.2.2.2.2⟩
    refine wpAny_call (codeAny_mono (F1.run X.A X.stack s1 H1 ⟨us, []⟩ us vs Q E0 h hr hpin I1.env0 b r q) fun r s' hq => ?_)
    cases r with
    | error e => exact hx pins σ H1 s1 e s' I1 hq
    | ok fl =>
      cases fl with
      | ret u => exact I1.after hq
      | next => exact False.elim hq
      | brk => exact False.elim hq
      | cont => exact False.elim hq
end
/-! ### try: .. except (A, B, C) as n: suite, the suite's end a return -/
open Classical in
noncomputable def coolS : SR → SR
  | .rt d M => if calmD d ∧ calmM M then .rt d M else .stuck
  | _ => .stuck
noncomputable def rTry3 (hd : Str → Option Bool) (i : Nat) (body suite : Sn) : Sn := fun ρ M => match body ρ M with
  | .err n fs ρ1 M1 => match hd n with
    | some true => coolS (suite (ρ1.set i (some (.exn n fs))) M1)
    | some false => .err n fs ρ1 M1
    | none => .stuck
  | r => r
section
variable {X : Cx} {c : Cl} {W : WX} {x1 x2 x3 n : Str} {c1 c2 c3 : Value} {i kk : Nat} {body suite : List Stmt} {b₀ : Stmt} {np1 np2 np3 tp pos pos' : Pos} {rb rs : Sn} {hd : Str → Option Bool}
theorem st_try3 (hs : X.stack = X.env :: X.outer) (hf : X.env.frame = some X.env.locals) (hN : X.N.Nodup) (hi : X.N[i]? = some n) (hln : X.env.kindOf n = some .local) (hc1 : Names X x1 c1) (hc2 : Names X x2 c2) (hc3 : Names X x3 c3) (tk : Takes X W) (hhot : c.hot = none)
    (hd_ok : ∀ m b, hd m = some b → ∀ C, c.adr m = some C → PySem.W.exmAny X.K (.ref C) [c1, c2, c3] = some b)
    (hb : ∀ (W' : WX) (pn : List (Addr × Obj)) (xe : Value → Shared → Prop), Takes (X.tr pn xe) W' → PassesOwn (model X.prog X.w) X.A X.env xe → PSs (X.tr pn xe) body (liftS c W' rb))
    (hsu : ∀ (a : Addr) (oe : Obj) (pn : List (Addr × Obj)), PSs (X.suite a ((a, oe) :: pn)) (b₀ :: suite) (liftS (heat c (a, oe)) W0 rs))
    (he3 : starEach [.Name x1 np1, .Name x2 np2, .Name x3 np3] X.env = [(false, eval (.Name x1 np1) X.env), (false, eval (.Name x2 np2) X.env), (false, eval (.Name x3 np3) X.env)] := by rfl) :
    PS X (.Try body [.ExceptHandler (some (.Tuple [.Name x1 np1, .Name x2 np2, .Name x3 np3] kk tp)) (some n) (b₀ :: suite) pos'] [] [] pos) (liftS c W (rTry3 hd i rb rs)) := by
  refine PS.imp (ps_try3 (tb := fun W' => liftS c W' rb) (ts := fun a cls d D σ H => ∀ oe, Zc cls d oe → (∃ vs, oe.data = .fields vs) → liftS (heat c (a, oe)) W0 rs D σ H) hs hf hN hi hln hc1 hc2 hc3 tk hb
    (fun a oe cls d pn z hv _ => PSs.imp (hsu a oe pn) fun D σ H q => q oe z hv) he3) fun D σ H ⟨ρ, M, θ, P, w, er, o⟩ => ⟨ρ, M, θ, P, w, er, ?_⟩
  unfold rTry3 at o
  cases q : rb ρ M with
  | nx ρ1 M1 => rw [q] at o; exact o
  | rt d M1 => rw [q] at o; exact o
  | bk ρ1 M1 => rw [q] at o; exact o
  | ct ρ1 M1 => rw [q] at o; exact o
  | stuck => rw [q] at o; exact o
  | err m fs ρ1 M1 =>
    simp only [q] at o
    intro cv dd σ' H' θ' P' w' s' er' x
    cases qh : hd m with
    | none => simp only [qh] at o; exact o.elim
    | some b =>
      have x0 := x
      obtain ⟨C, d, fv, hC, rfl, rfl, hP, hv⟩ := x0
      refine ⟨b, hd_ok m b qh C hC, fun e a na => ?_, fun e => ?_⟩
      · subst e
        simp only [qh] at o
        intro oe z hvs
        refine ⟨ρ1.set i (some (.exn m fs)), M1, θ', P', w'.heat hhot, ?_, ?_⟩
        · have er2 : ER (heat c (a, oe)) θ' P' ρ1 σ' := ⟨er'.len, fun j x e => let ⟨v, e1, r⟩ := er'.at_ j x e; ⟨v, e1, VR.heat hhot r⟩⟩
          exact ER.set (d := .exn m fs) (v := .ref a) er2 i ⟨a, oe, C, d, fv, rfl, hC, ⟨z, hvs⟩, .inr rfl, hP, VRF.heat hhot hv⟩
        · cases q2 : rs (ρ1.set i (some (.exn m fs))) M1 with
          | rt d2 M2 =>
            rw [q2] at o
            unfold coolS at o
            by_cases g : calmD d2 ∧ calmM M2
            · simp only [g, and_self, if_true] at o
              intro b H2 θ2 P2 w2 s2 r2
              exact o b H2 θ2 P2 (w2.cool g.2) (s'.trans s2) (VR.cool r2 g.1)
            · simp only [g, if_false] at o
              exact o.elim
          | nx _ _ => rw [q2] at o; exact o.elim
          | bk _ _ => rw [q2] at o; exact o.elim
          | ct _ _ => rw [q2] at o; exact o.elim
          | stuck => rw [q2] at o; exact o.elim
          | err _ _ _ _ => rw [q2] at o; exact o.elim
      · subst e
        simp only [qh] at o
        exact o _ _ σ' H' θ' P' w' s' er' x
end
end Q

namespace Q
open PySem PySem.Spec PyProof.Rows L2

/-! ### tables of classes -/
section
variable {X : Cx} {c : Cl} {W : WX} {E : XK} {m f : Str} {np : Nat} {n : Str} {run : Fn} {T : List (Str × Fn)}
theorem fldOk_nil : FldOk c [] f := fun _ h => nomatch h
theorem fldOk_cons {n : Str} {C : Addr} {ns : List Str} (hC : c.adr n = some C) (h1 : Cls c.K C) (h2 : NoAttr c.K C f) (h : FldOk c ns f) : FldOk c (n :: ns) f := fun n' hn C' hC' => by
  rcases List.mem_cons.mp hn with rfl | hn
  · rw [hC] at hC'
    cases hC'
    exact ⟨h1, h2⟩
  · exact h n' hn C' hC'
theorem xfOk_nil : XfOk c [] f := fun _ h => nomatch h
theorem xfOk_cons {n : Str} {C : Addr} {ns : List Str} (hC : c.adr n = some C) (h1 : XfC c.K C) (h2 : PySem.W.findIn c.K (.ref C) f = some none) (h : XfOk c ns f) : XfOk c (n :: ns) f := fun n' hn C' hC' => by
  rcases List.mem_cons.mp hn with rfl | hn
  · rw [hC] at hC'
    cases hC'
    exact ⟨h1, h2⟩
  · exact h n' hn C' hC'
def MtAll (X : Cx) (c : Cl) (m : Str) (np : Nat) (T : List (Str × Fn)) : Prop := ∀ n run, T.lookup n = some run → MtOk X c m np n run
theorem mt_nil : MtAll X c m np [] := fun _ _ h => by simp at h
theorem mt_cons (h1 : MtOk X c m np n run) (h : MtAll X c m np T) : MtAll X c m np ((n, run) :: T) := fun n' run' hn => by
  by_cases q : n' = n
  · subst q
    simp [List.lookup] at hn
    subst hn
    exact h1
  · have q' : (n' == n) = false := by simpa using q
    simp only [List.lookup, q'] at hn
    exact h n' run' hn
/-- the method is the def d: the class's own, or one found above it -/
theorem mt_of {d : DefQ} {k : Nat} {ps : List Str} {C : Addr} (hK : c.K = X.K) (hC : c.adr n = some C) (hc : Cls c.K C) (hm : Meth c.K C m (adr c.K d.at_)) (F : Dq X.prog X.w c X.mg X.base d k ps run) (hn : ps.length = np + 1) (hr : Room k X.A) (hd : d.dfl = [])
    (hb : ∀ (clo : List (Str × Addr)) (kV doc pm : Value) (an : Option Addr) (cdv ct : Value) (us : List Value), us.length = ps.length → bindArgs (PySem.W.fnX d.name d.qual d.params d.body d.scope clo .none kV doc pm an cdv ct) ⟨us, []⟩ = pure (ps.zip us)) : MtOk X c m np n run := ⟨fun C' hC' => by
  rw [hC] at hC'
  cases hC'
  obtain ⟨fd, h1, h2⟩ := F.ex
  rw [hK] at h1 h2 hc hm
  rw [hn] at h1
  exact ⟨hc, _, fd, ps, k, hm, h1, hr, h2.bindsN hd hb⟩⟩
/-! ### properties -/
structure PrOk (X : Cx) (c : Cl) (f : Str) (n : Str) (run : Fn) : Prop where
  go : ∀ C, c.adr n = some C → Cls X.K C ∧ ∃ (p g : Addr) (fd : FuncData) (ps : List Str) (k : Nat), PropOf X.K C f p g ∧ FnOk X.prog X.w X.K X.mg X.base (L2.CX X.prog X.w) k g fd ps (spF c 1 run) ∧ Room (k + 1) X.A ∧ Binds X.K fd ps []
def PrAll (X : Cx) (c : Cl) (f : Str) (T : List (Str × Fn)) : Prop := ∀ n run, T.lookup n = some run → PrOk X c f n run
theorem pr_nil : PrAll X c f [] := fun _ _ h => by simp at h
theorem pr_cons (h1 : PrOk X c f n run) (h : PrAll X c f T) : PrAll X c f ((n, run) :: T) := fun n' run' hn => by
  by_cases q : n' = n
  · subst q
    simp [List.lookup] at hn
    subst hn
    exact h1
  · have q' : (n' == n) = false := by simpa using q
    simp only [List.lookup, q'] at hn
    exact h n' run' hn
theorem pr_of {d : DefQ} {k : Nat} {ps : List Str} {C p : Addr} (hK : c.K = X.K) (hC : c.adr n = some C) (hc : Cls c.K C) (hp : PropOf c.K C f p (adr c.K d.at_)) (F : Dq X.prog X.w c X.mg X.base d k ps run) (hn : ps.length = 1) (hr : Room (k + 1) X.A) (hd : d.dfl = [])
    (hb : ∀ (clo : List (Str × Addr)) (kV doc pm : Value) (an : Option Addr) (cdv ct : Value) (us : List Value), us.length = ps.length → bindArgs (PySem.W.fnX d.name d.qual d.params d.body d.scope clo .none kV doc pm an cdv ct) ⟨us, []⟩ = pure (ps.zip us)) : PrOk X c f n run := ⟨fun C' hC' => by
  rw [hC] at hC'
  cases hC'
  obtain ⟨fd, h1, h2⟩ := F.ex
  rw [hK] at h1 h2 hc hp
  rw [hn] at h1
  exact ⟨hc, p, _, fd, ps, k, hp, h1, hr, h2.bindsN hd hb⟩⟩
/-- e.f by the class's property; the getter raises nothing -/
def rProp (T : List (Str × Fn)) (o : Rn D) : Rn D := fun ρ M => (o ρ M).bind fun d M1 => match insOf d M1 with
  | some (n, _) => match T.lookup n with
    | some run => calmly (run [d] M1)
    | none => .stuck
  | none => .stuck
theorem s_prop {e : Expr} {pos : Pos} {ro : Rn D} (hT : PrAll X c f T) (ho : PE X e (liftE c W ro)) (hb : attributeBase e f X.env (eval e X.env) = eval e X.env := by rfl) : PE X (.Attribute e f pos) (liftE c W (rProp T ro)) := by
  refine ⟨fun pins s σ H Q I ⟨ρ, M, θ, P, w, er, o⟩ => ?_⟩
  refine attr_of hb (thn (ho.run pins s σ H (fun x H1 => ∃ b C dx fv, x = .ref b ∧ H1 b = some (.ins C dx fv) ∧ Cls X.K C ∧ ∃ (run : Fn) (p g : Addr) (fd : FuncData) (ps : List Str) (k : Nat), PropOf X.K C f p g ∧ FnOk X.prog X.w X.K X.mg X.base (L2.CX X.prog X.w) k g fd ps (spF c 1 run) ∧ Room (k + 1) X.A ∧ Binds X.K fd ps [] ∧ spF c 1 run [.ref b] H1 Q E0) I
    ⟨ρ, M, θ, P, w, er, Out.bind (R := RV c) o fun d M1 v H1 θ1 P1 w1 s1 r1 o1 => ?_⟩) fun u s1 ⟨x, H1, I1, rx, b, C, dx, fv, ex, ea, cl, run, p, g, fd, ps, k, hp, F, hr, hbd, q⟩ => ?_)
  · cases q : insOf d M1 with
    | none => simp only [q] at o1; exact o1.elim
    | some nf =>
      obtain ⟨n, fs⟩ := nf
      simp only [q] at o1
      obtain ⟨b, C, dx, fv, rfl, k0, k1, k2⟩ := ins_read w1 r1 q
      cases q2 : T.lookup n with
      | none => simp only [q2] at o1; exact o1.elim
      | some run =>
        simp only [q2] at o1
        obtain ⟨cl, p, g, fd, ps, k, hp, F, hr, hbd⟩ := (hT n run q2).go C k0
        refine ⟨b, C, dx, fv, rfl, k1, cl, run, p, g, fd, ps, k, hp, F, hr, hbd, [d], M1, θ1, P1, w1, ⟨_, [], rfl, r1, rfl⟩, rfl, Out.calm o1⟩
  · subst ex
    have hu : u = Value.ref b := rx
    subst hu
    exact getprop_ok (dvs := []) (ds := []) I1 ea cl hp F hr hbd .nil (passes_call no_takes (fun _ _ _ _ z => z)) q
end
/-! ### makes without positional values -/
section
variable {X : Cx} {c : Cl} {W : WX} {E : XK} {k : Nat} {d : DefQ} {ps ks : List Str} {ix : List Ar} {run : Fn} {x : Str} {p pos : Pos} {kws : List Keyword} {rk : Rn (List D)}
theorem s_mk0 {n : Str} {C : Addr} {ds : List D} (m : Md X c W E) (F : Dq X.prog X.w c X.mg X.base d k ps run) (hr : Room (k + 1) X.A) (hm : X.mg x = some (.ref C)) (hC : c.adr n = some C) (M : Mk c.K C (adr c.K d.at_))
    (B : ∀ fd, FunQ c.K d (adr c.K d.at_) fd → ∃ (dv : List Value) (dvs : List V), Vals dvs dv ∧ (∀ θ P, VRL c θ P ds dvs) ∧ Bnd c.K fd ps 1 ks ix dv) (hkw : PK X kws (liftA c W rk))
    (hg : Gl X x := by rfl) (hdb : (x == ("__debug__" : Str)) = false := by decide) (hall : (backToKw pos (keywordEach kws X.env)).all (·.1.isSome) = true := by rfl) (hks : (backToKw pos (keywordEach kws X.env)).filterMap (·.1) = ks := by rfl)
    (hpl : ((backTo pos (starEach [] X.env)).any (·.1) || (backToKw pos (keywordEach kws X.env)).any (·.1.isNone)) = false := by rfl) :
    PE X (.Call (.Name x p) [] kws pos) (liftE c W (rMk n 0 ks.length ps.length run ix ds rNil rk)) := by
  obtain ⟨fd, h1, h2⟩ := F.ex
  obtain ⟨dv, dvs, b1, b2, b3⟩ := B fd h2
  rw [m.k] at h1 h2 b3 M
  have KB : KBn X.K fd ps (0 + 1) ks (fun us ws => arr ix us ws dv) (fun vs zs => arr ix vs zs dvs) := ⟨b3.to, fun r rz => vals_arr r rz b1 ix⟩
  refine ⟨fun pins s σ H Q I ⟨ρ, M0, θ, P, w, er, o⟩ => ?_⟩
  refine wpAny_Call_Name_kw (ld_glob I hg hm ?_ hdb)
  refine PySem.W.callWith_KW0 (h₀ := X.base) I.ok.mod.kin M.kp hall (thn (hkw.run pos pins s σ H (fun zs H2 => zs.length = ks.length ∧ ∀ a dx, H2 a = none → H2 dx = none → dx ≠ a → spF c ps.length run (arr ix [.ref a] zs dvs) (upd (upd H2 dx (.own a)) a (.ins C dx [])) (fun v H3 => v = .non ∧ Q (.ref a) H3) E) I ⟨ρ, M0, θ, P, w, er, ?_⟩) fun ws s2 ⟨zs, H2, I2, rz, l2, q2⟩ => ⟨I2.kIn, ?_⟩) hpl
  · refine Out.bind (R := RL c) (show OutE c θ P H Q _ ((rk ρ M0).bind fun zs M2 => rGuard (decide (0 = 0 ∧ zs.length = ks.length ∧ (arr ix [.ref M2.length] zs ds).length = ps.length)) ((run (arr ix [.ref M2.length] zs ds) (M2 ++ [.inst n []])).bind fun d M3 => match d with
      | .non => .ok (.ref M2.length) M3
      | _ => .stuck)) from o) fun zs M2 ws H2 θ2 P2 w2 s2 r2 o2 => ?_
    obtain ⟨g, o2⟩ := Out.guard (R := RV c) o2
    obtain ⟨g1, g2, g3⟩ := of_decide_eq_true g
    exact ⟨by rw [r2.length]; exact g2, fun a dx ha hdx hne => make_now (ds := []) (vs := []) m w2 rfl r2 b2 hC ha hdx hne g3 o2⟩
  · rw [hks]
    exact run_makeN (us := []) (vs := []) (E := E) M h1 hr KB m.pass I2 .nil rz rfl l2 q2
end
end Q

namespace Q
open PySem PySem.Spec PyProof.Rows L2

section
variable {X : Cx} {c : Cl} {W : WX}
/-! ### f-strings -/
def opFmt (d : D) (M : MS) : Res D := match d with
  | .str y => rGuard (small y.length) (.ok (.str y) M)
  | .int i => rGuard (decide (i.natAbs.log2 < 1920)) (.ok (.str (toString i)) M)
  | _ => .stuck
theorem s_fmt {e : Expr} {pos : Pos} {a : Rn D} (h : PE X e (liftE c W a)) : PE X (.FormattedValue e (-1) none pos) (liftE c W (rU opFmt a)) :=
  PE.imp (pe_fmt h) fun σ H Q ⟨ρ, M, θ, P, w, er, o⟩ => ⟨ρ, M, θ, P, w, er, Out.bind (R := RV c) o fun d M1 v H1 θ1 P1 w1 s1 r1 o1 => by
    unfold opFmt at o1
    cases d with
    | str y =>
      cases r1
      obtain ⟨g, o1⟩ := Out.guard (R := RV c) o1
      exact .inl ⟨y, rfl, small_line g, Out.now (R := RV c) w1 o1 rfl⟩
    | int i =>
      cases r1
      obtain ⟨g, o1⟩ := Out.guard (R := RV c) o1
      exact .inr ⟨i, rfl, of_decide_eq_true g, Out.now (R := RV c) w1 o1 rfl⟩
    | _ => exact o1.elim⟩
theorem s_fs1 {e : Expr} {pos : Pos} {a : Rn D} (h : PE X e (liftE c W a)) : PE X (.JoinedStr [e] pos) (liftE c W a) := pe_joined1 h
def rJs : List (Rn D) → Str → Rn D
  | [], acc => fun _ M => .ok (.str acc) M
  | a :: as, acc => fun ρ M => (a ρ M).bind fun d M1 => match d with
    | .str y => rGuard (small (acc ++ y).length) (rJs as (acc ++ y) ρ M1)
    | _ => .stuck
theorem js_run {σ : L2.St} {Q : V → Hp → Prop} : ∀ (as : List (Rn D)) (acc : Str) (H : Hp), liftE c W (rJs as acc) σ H Q → tJs (as.map (liftE c W)) acc σ H fun out H1 => Q (.str out) H1
  | [], acc, H, ⟨ρ, M, θ, P, w, er, o⟩ => Out.now (R := RV c) w o rfl
  | a :: as, acc, H, ⟨ρ, M, θ, P, w, er, o⟩ => ⟨ρ, M, θ, P, w, er, Out.bind (R := RV c) o fun d M1 v H1 θ1 P1 w1 s1 r1 o1 => by
    cases d with
    | str y =>
      cases r1
      obtain ⟨g, o1⟩ := Out.guard (R := RV c) o1
      exact ⟨y, rfl, small_line g, js_run as (acc ++ y) H1 ⟨ρ, M1, θ1, P1, w1, er.step s1, o1⟩⟩
    | _ => exact o1.elim⟩
theorem j_nil : PJ X [] ([].map (liftE c W)) := .nil
theorem j_cons {e : Expr} {a : Rn D} {es : List Expr} {as : List (Rn D)} (h : PE X e (liftE c W a)) (r : PJ X es (as.map (liftE c W))) : PJ X (e :: es) ((a :: as).map (liftE c W)) := .cons h r
theorem s_js {v1 v2 : Expr} {rest : List Expr} {as : List (Rn D)} {pos : Pos} (h : PJ X (v1 :: v2 :: rest) (as.map (liftE c W))) : PE X (.JoinedStr (v1 :: v2 :: rest) pos) (liftE c W (rJs as Str.empty)) := PE.imp (pe_joined h) fun σ H Q q => js_run as _ H q
/-! ### list(x), tuple(x) -/
def fList : Fn := fun ds M => match ds with
  | [d] => match starD d M with
    | some xs => .ok (.lst xs) M
    | none => .stuck
  | _ => .stuck
def fListM : Fn := fun ds M => match ds with
  | [d] => match starD d M with
    | some xs => .ok (.ref M.length) (M ++ [.lst xs])
    | none => .stuck
  | _ => .stuck
theorem c_list : CallD c (fun xs H Q => ∃ p ys, xs = [.ref p] ∧ (SqL c.K H p ys ∨ SqT c.K H p ys) ∧ ∀ l, H l = none → Q (.ref l) (upd H l (.lst ys))) fList := fun θ P H M ds vs Q Wx w r o => by
  match ds, o with
  | [d], o =>
    obtain ⟨v, rfl, r1⟩ := r.inv1
    unfold fList at o
    cases q : starD d M with
    | none => simp only [q] at o; exact o.elim
    | some xs =>
      simp only [q] at o
      obtain ⟨a, ys, rfl, sq, rx⟩ := star_read w r1 q
      exact ⟨a, ys, rfl, sq.symm, fun l hl => new_lst w hl rx o⟩
theorem c_listM : CallD c (fun xs H Q => ∃ p ys, xs = [.ref p] ∧ (SqL c.K H p ys ∨ SqT c.K H p ys) ∧ ∀ l, H l = none → Q (.ref l) (upd H l (.lst ys))) fListM := fun θ P H M ds vs Q Wx w r o => by
  match ds, o with
  | [d], o =>
    obtain ⟨v, rfl, r1⟩ := r.inv1
    unfold fListM at o
    cases q : starD d M with
    | none => simp only [q] at o; exact o.elim
    | some xs =>
      simp only [q] at o
      obtain ⟨a, ys, rfl, sq, rx⟩ := star_read w r1 q
      exact ⟨a, ys, rfl, sq.symm, fun l hl => new_lstM w hl rx o⟩
def fTuple : Fn := fun ds M => match ds with
  | [.tup xs] => .ok (.tup xs) M
  | [d] => match lstOf d M with
    | some xs => .ok (.tup xs) M
    | none => .stuck
  | _ => .stuck
theorem c_tuple : CallD c (fun xs H Q => ∃ p ys, xs = [.ref p] ∧ ((SqL c.K H p ys ∧ ∀ l, H l = none → Q (.ref l) (upd H l (.tup ys))) ∨ (SqT c.K H p ys ∧ Q (.ref p) H))) fTuple := fun θ P H M ds vs Q Wx w r o => by
  cases ds with
  | nil => exact o.elim
  | cons d ds =>
    cases ds with
    | cons _ _ => cases d <;> exact o.elim
    | nil =>
    obtain ⟨v, rfl, r1⟩ := r.inv1
    by_cases t : ∃ xs, d = .tup xs
    · obtain ⟨xs, rfl⟩ := t
      have r0 := r1
      obtain ⟨a, ys, rfl, sq, rx⟩ := tup_read w r1
      exact ⟨a, ys, rfl, .inr ⟨sq, Out.now (R := RV c) w o r0⟩⟩
    · have o' : OutE c θ P H Q Wx (match lstOf d M with
          | some xs => .ok (.tup xs) M
          | none => .stuck) := by
        cases d with
        | tup xs => exact absurd ⟨xs, rfl⟩ t
        | _ => exact o
      cases q : lstOf d M with
      | none => simp only [q] at o'; exact o'.elim
      | some xs =>
        simp only [q] at o'
        obtain ⟨a, ys, rfl, sq, rx⟩ := lst_read w r1 q
        exact ⟨a, ys, rfl, .inl ⟨sq, fun l hl => new_tup w hl rx o'⟩⟩
/-! ### methods of changeable lists -/
def fAppend (d : D) : Fn := fun ds M => match d, ds with
  | .ref l, [y] => match M[l]? with
    | some (.lst xs) => rGuard (decide (xs.length < 16777216)) (.ok .non (M.set l (.lst (xs ++ [y]))))
    | _ => .stuck
  | _, _ => .stuck
theorem m_append : MtD c rAppend fAppend := fun θ P H M d x ds vs Q Wx w rd r o => by
  match d, ds, o with
  | .ref l, [y], o =>
    obtain ⟨a, e, rfl⟩ := rd
    obtain ⟨v, rfl, r1⟩ := r.inv1
    unfold fAppend at o
    cases q : M[l]? with
    | none => simp only [q] at o; exact o.elim
    | some mo =>
      cases mo with
      | lst xs =>
        simp only [q] at o
        obtain ⟨g, o⟩ := Out.guard (R := RV c) o
        obtain ⟨ys, k1, k2⟩ := w.cell l a _ e q
        obtain ⟨w2, s2⟩ := w.setM (o := .lst (ys ++ [v])) (mo' := .lst (xs ++ [y])) e q (by simp) ⟨_, upd_same, k2.append (VRL.one r1)⟩
        exact ⟨a, ys, v, rfl, rfl, k1, by rw [k2.length, sizeLine_eq]; have := of_decide_eq_true g; omega, o .non _ _ _ w2 s2 rfl⟩
      | inst n fs => simp only [q] at o; exact o.elim
      | dic t kvs => simp only [q] at o; exact o.elim
      | dead => simp only [q] at o; exact o.elim
/-! ### a list repeated -/
def opRep (d e : D) (M : MS) : Res D := match ownL d M, e with
  | some xs, .int k => rGuard (decide (-9223372036854775808 ≤ k ∧ k < 9223372036854775808 ∧ xs.length * k.toNat ≤ 16777216)) (.ok (.lst (List.replicate k.toNat xs).flatten) M)
  | _, _ => .stuck
theorem VRL.rep {θ : List Addr} {P : Hp} {ds : List D} {vs : List V} (r : VRL c θ P ds vs) : ∀ n : Nat, VRL c θ P (List.replicate n ds).flatten (List.replicate n vs).flatten
  | 0 => rfl
  | n + 1 => by
    rw [List.replicate_succ, List.replicate_succ, List.flatten_cons, List.flatten_cons]
    exact r.append (VRL.rep r n)
theorem o_rep : Op2 c rRep opRep := fun θ P H M d e x y Q Wx w rd re o => by
  unfold opRep at o
  cases q : ownL d M with
  | none => simp only [q] at o; exact o.elim
  | some xs =>
    cases e with
    | int k =>
      cases re
      simp only [q] at o
      obtain ⟨g, o⟩ := Out.guard (R := RV c) o
      obtain ⟨g1, g2, g3⟩ := of_decide_eq_true g
      obtain ⟨a, vs, rfl, ha, rl⟩ := own_read w rd q
      exact ⟨a, k, vs, rfl, rfl, ha, by omega, by omega, by rw [rl.length, sizeLine_eq]; omega, fun p hp => new_lst w hp (rl.rep k.toNat) o⟩
    | _ => simp only [q] at o; exact o.elim
end
end Q

namespace Q
open PySem PySem.Spec PyProof.Rows L2

/-! ### == by an own __eq__ -/
section
variable {c : Cl}
theorem tyX_any {θ : List Addr} {P H : Hp} {M : MS} (w : Wo c θ P H M) {d : D} {v : V} {t : Ty} (r : VR c θ P d v) (h : tyN d M = some t) (hi : ∀ n, t = .inr n → ∀ C, c.adr n = some C → ∀ a dx fs, H a = some (.ins C dx fs) → TyOf c.K H (.ref a) (.ref C)) : ∃ x, valT c t = some x ∧ TyX c.K H v x := by
  cases d with
  | non => cases h; cases r; exact ⟨_, rfl, .base .non⟩
  | bl b => cases h; cases r; exact ⟨_, rfl, .base (.bl b)⟩
  | int b => cases h; cases r; exact ⟨_, rfl, .base (.int b)⟩
  | str b => cases h; cases r; exact ⟨_, rfl, .base (.str b)⟩
  | tup b =>
    cases h
    obtain ⟨a, vs, rfl, k, q⟩ := r
    rcases k with (k | ⟨o, k⟩) | ⟨o, its, n, k1, k2, _⟩
    · exact ⟨_, rfl, .base (.tup (w.sub _ _ k))⟩
    · exact ⟨_, rfl, .fTuple (w.sub _ _ k)⟩
    · exact ⟨_, rfl, .kTuple k1 k2⟩
  | lst b =>
    cases h
    obtain ⟨a, vs, rfl, k, q⟩ := r
    exact ⟨_, rfl, .base (.lst (w.sub _ _ k))⟩
  | scr b =>
    cases h
    obtain ⟨a, vs, rfl, k, q⟩ := r
    rcases k with (k | ⟨o, k⟩) | ⟨o, its, n, k1, k2, _⟩
    · exact ⟨_, rfl, .base (.lst (w.sub _ _ k))⟩
    · exact ⟨_, rfl, .base (.frz (w.sub _ _ k))⟩
    · exact ⟨_, rfl, .kList k1 k2⟩
  | obj n fs =>
    obtain ⟨a, C, dx, fv, rfl, k1, k2, _⟩ := r
    cases h
    exact ⟨.ref C, by simp [valT, k1], .base (hi n rfl C k1 a dx fv (w.sub _ _ k2))⟩
  | ref l =>
    obtain ⟨a, e, rfl⟩ := r
    unfold tyN at h
    cases q : M[l]? with
    | none => simp only [q] at h; cases h
    | some mo =>
      have cell := w.cell l a mo e q
      cases mo with
      | lst ds => simp only [q] at h; cases h; obtain ⟨vs, k1, _⟩ := cell; exact ⟨_, rfl, .base (.lst k1)⟩
      | inst n fs =>
        simp only [q] at h
        cases h
        obtain ⟨C, dx, fv, k0, k1, _⟩ := cell
        exact ⟨.ref C, by simp [valT, k0], .base (hi n rfl C k0 a dx fv k1)⟩
      | dic t kvs => simp only [q] at h; cases h
      | dead => simp only [q] at h; cases h
  | _ => cases h
end
/-- the class n's == -/
structure EqOk (X : Cx) (c : Cl) (n : Str) (run : Fn) : Prop where
  go : ∀ C, c.adr n = some C → ∃ (f : Addr) (fd : FuncData) (ps : List Str) (k : Nat), PySem.W.findIn X.K (.ref C) "__eq__" = some (some (.ref f)) ∧ PySem.W.isFn X.K (.ref f) = true ∧ FnOk X.prog X.w X.K X.mg X.base (L2.CX X.prog X.w) k f fd ps (spF c 2 run) ∧ Room k X.A ∧ Binds X.K fd ps []
/-- which side is asked first: ord n t = some true: the right one -/
structure OrdOk (c : Cl) (ord : Str → Ty → Option Bool) : Prop where
  left : ∀ n t, ord n t = some false → ∀ C, c.adr n = some C → ∀ y, valT c t = some y → PySem.W.notFirst c.K C y = true
  right : ∀ n m, ord n (.inr m) = some true → ∀ C D, c.adr n = some C → c.adr m = some D → Value.ref C ≠ Value.ref D ∧ PySem.W.subIn c.K (.ref D) (.ref C) = some true
  ins : ∀ n m b, ord n (.inr m) = some b → ∀ D, c.adr m = some D → ∀ (H : Hp) a dx fs, H a = some (.ins D dx fs) → TyOf c.K H (.ref a) (.ref D)
def opEqO (T : List (Str × Fn)) (ord : Str → Ty → Option Bool) (d e : D) (M : MS) : Res D := match insOf d M, tyN e M with
  | some (n, _), some t => match ord n t with
    | some false => match T.lookup n with
      | some run => run [d, e] M
      | none => .stuck
    | some true => match insOf e M with
      | some (m, _) => match T.lookup m with
        | some run => if t = .inr m then run [e, d] M else .stuck
        | none => .stuck
      | none => .stuck
    | none => .stuck
  | _, _ => .stuck
section
variable {prog : Program} {w : World} {A : Around} {E : Value → Shared → Prop} {s : Shared} {h0 : Heap} {L x y C D f : Addr} {m : Str → Option Value} {K : PySem.W.Frag} {ox oy : Obj} {od od' : Option Obj}
open PySem.W in
theorem cmp_right {Q : Value → Shared → Prop} (hu : A.units < cLine) (FR : Fr h0 L s.heap m) (K0 : K.In h0) (I : InstAt s.heap x ox C od) (J : InstAt s.heap y oy D od') (hne : Value.ref C ≠ Value.ref D) (hsub : subIn K (.ref D) (.ref C) = some true)
    (hs : findIn K (.ref D) "__eq__" = some (some (.ref f))) (hf : isFn K (.ref f) = true) (h : wpAny (model prog w) A (call (.ref f) [.ref y, .ref x]) (PySem.W.CmpBack Q) E s) : wpAny (model prog w) A (richCompare .Eq (.ref x) (.ref y)) Q E s := by
  have KX := K0.keeps FR.keep
  have one : wpAny (model prog w) A (tryCompare (.ref y) (cmpInfo .Eq).2.2 (.ref x)) (fun r s' => ∃ v, r = some v ∧ Q v s') E s := by
    unfold tryCompare
    refine wpAny_bind (ifBound_K KX J hs hf (wpAny_mono h (fun v s' hv => ?_) fun _ _ e => e))
    cases v <;> first | exact hv.elim | exact wpAny_pure ⟨_, rfl, hv⟩
  unfold richCompare
  simp only [oneThing_ref]
  refine wpAny_holding (wpAny_bind (wpAny_cRoomFor hu ?_))
  refine wpAny_bind (I.type.here (wpAny_bind (J.type.here ?_)))
  have hb : ((Value.ref C != Value.ref D) = true) := by simpa using hne
  rw [if_pos hb]
  refine wpAny_bind ((looks_subIn KX hsub).here ?_)
  simp only [if_true]
  refine wpAny_bind (wpAny_mono one (fun r s' z => ?_) fun _ _ e => e)
  obtain ⟨v, rfl, hq⟩ := z
  first
    | exact wpAny_bind (wpAny_rule (wpAny_pure hq))
    | exact wpAny_rule (wpAny_pure hq)
    | exact wpAny_bind (wpAny_rule hq)
    | (refine wpAny_bind (wpAny_rule ?_); exact wpAny_pure hq)
end
end Q

namespace Q
open PySem PySem.Spec PyProof.Rows L2

theorem cmp_told {G : Value → Shared → Prop} {z : V} {v : Value} {s' : Shared} (r : RelV z v) (h : G v s') : PySem.W.CmpBack G v s' := by
  cases v with
  | notImplemented => cases z <;> first | (obtain ⟨_, q⟩ := r; cases q) | cases r
  | _ => exact h
section
variable {X : Cx} {c : Cl} {W : WX} {E : XK}
/-- the def's run at values that stand -/
theorem run_two {f : Addr} {fd : FuncData} {ps : List Str} {k np : Nat} {run : Fn} {pins : List (Addr × Obj)} {σ : L2.St} {H : Hp} {s : Shared} {Q : VK} {us : List Value} {vs : List V} (md : Md X c W E) (F : FnOk X.prog X.w X.K X.mg X.base (L2.CX X.prog X.w) k f fd ps (spF c np run)) (hr : Room k X.A) (hb : Binds X.K fd ps [])
    (I : Inv X pins σ H s) (r : Vals vs us) (h : spF c np run vs H Q E) : wpAny (model X.prog X.w) X.A (call (.ref f) us) (EP X pins σ Q) X.xe s :=
  run_fn (dvs := []) F hr hb .nil md.pass I r (by rw [List.append_nil]; exact h)
/-- x == y, x an instance with its own == -/
theorem s_eqO {T : List (Str × Fn)} {ord : Str → Ty → Option Bool} {e1 e2 : Expr} {pos : Pos} {a b : Rn D} (md : Md X c W E) (hu : X.A.units < cLine) (hT : ∀ n run, T.lookup n = some run → EqOk X c n run) (O : OrdOk c ord) (ha : PE X e1 (liftE c W a)) (hb : PE X e2 (liftE c W b)) (hm : behindInMarks .Eq e2 = false := by rfl) :
    PE X (.Compare e1 [.Eq] [e2] pos) (liftE c W (rOp2 (opEqO T ord) a b)) := by
  have op : OpR X (compareOp .Eq) (fun x y H Q => ∃ d e M θ P σ, Wo c θ P H M ∧ VR c θ P d x ∧ VR c θ P e y ∧ OutE c θ P H Q (fun cv dd H' => W cv dd σ H') (opEqO T ord d e M)) := by
    intro pins s σ H x y v u Q I rx ry h
    obtain ⟨d, e, M, θ, P, σ0, w, rd, re, o⟩ := h
    unfold opEqO at o
    cases q1 : insOf d M with
    | none => simp only [q1] at o; exact o.elim
    | some nf =>
      obtain ⟨n, fs⟩ := nf
      obtain ⟨xa, C, dx, fv, rfl, k0, k1, k2⟩ := ins_read w rd q1
      have hv : v = Value.ref xa := rx
      subst hv
      cases q2 : tyN e M with
      | none => simp only [q1, q2] at o; exact o.elim
      | some t =>
        simp only [q1, q2] at o
        cases q3 : ord n t with
        | none => simp only [q3] at o; exact o.elim
        | some bb =>
          obtain ⟨ty, t1, t2⟩ := tyX_any w re q2 (fun m hm D hD a dx fs ea => by subst hm; exact O.ins n m bb q3 D hD H a dx fs ea)
          rw [md.k] at t2
          obtain ⟨PP, Z, p, _⟩ := kit_of I ry t2
          obtain ⟨mA, J, _⟩ := ins_get I.hok k1
          obtain ⟨od, J, _⟩ := J.look
          obtain ⟨m0, hF⟩ := I.fr
          show wpAny (model X.prog X.w) X.A (richCompare .Eq (.ref xa) u) (EP X pins σ Q) X.xe s
          cases bb with
          | false =>
            simp only [q3] at o
            cases q4 : T.lookup n with
            | none => simp only [q4] at o; exact o.elim
            | some run =>
              simp only [q4] at o
              obtain ⟨f, fd, ps, k, h1, h2, F, hr, hbd⟩ := (hT n run q4).go C k0
              have nf := O.left n t q3 C k0 ty t1
              rw [md.k] at nf
              refine PySem.W.cmp_K (op := .Eq) (tb := ty) hu hF I.ok.mod.kin J (Z.ty _ _ I.kIn p) nf h1 h2 ?_
              refine wpAny_mono (run_two (σ := σ) (us := [.ref xa, u]) (vs := [.ref xa, y]) md F hr hbd I (.cons rfl (.cons ry .nil)) (sp_now (ds := [d, e]) (σ := σ0) md.we w ⟨_, _, rfl, rd, _, _, rfl, re, rfl⟩ rfl o)) (fun r s' z => ?_) fun _ _ x => x
              obtain ⟨z', H', I', rz, qz⟩ := z
              exact cmp_told rz ⟨z', H', I', rz, qz⟩
          | true =>
            simp only [q3] at o
            cases q5 : insOf e M with
            | none => simp only [q5] at o; exact o.elim
            | some mf =>
              obtain ⟨m, fs2⟩ := mf
              simp only [q5] at o
              cases q4 : T.lookup m with
              | none => simp only [q4] at o; exact o.elim
              | some run =>
                simp only [q4] at o
                by_cases ht : t = .inr m
                · rw [if_pos ht] at o
                  subst ht
                  obtain ⟨ya, D, dy, gv, rfl, j0, j1, j2⟩ := ins_read w re q5
                  have hu' : u = Value.ref ya := ry
                  subst hu'
                  obtain ⟨f, fd, ps, k, h1, h2, F, hr, hbd⟩ := (hT m run q4).go D j0
                  obtain ⟨mB, J', _⟩ := ins_get I.hok j1
                  obtain ⟨od', J', _⟩ := J'.look
                  obtain ⟨r1, r2⟩ := O.right n m q3 C D k0 j0
                  rw [md.k] at r2
                  refine cmp_right hu hF I.ok.mod.kin J J' r1 r2 h1 h2 ?_
                  refine wpAny_mono (run_two (σ := σ) (us := [.ref ya, .ref xa]) (vs := [.ref ya, .ref xa]) md F hr hbd I (.cons rfl (.cons rfl .nil)) (sp_now (ds := [e, d]) (σ := σ0) md.we w ⟨_, _, rfl, re, _, _, rfl, rd, rfl⟩ rfl o)) (fun r s' z => ?_) fun _ _ x => x
                  obtain ⟨z', H', I', rz, qz⟩ := z
                  exact cmp_told rz ⟨z', H', I', rz, qz⟩
                · rw [if_neg ht] at o
                  exact o.elim
  refine PE.imp (pe_cmpR op ha hb hm) fun σ H Q ⟨ρ, M, θ, P, w, er, o⟩ => ⟨ρ, M, θ, P, w, er, Out.bind (R := RV c) o fun d M1 x H1 θ1 P1 w1 s1 r1 o1 => ⟨ρ, M1, θ1, P1, w1, er.step s1, Out.bind (R := RV c) o1 fun e M2 y H2 θ2 P2 w2 s2 r2 o2 => ⟨d, e, M2, θ2, P2, σ, w2, r1.step s2, r2, o2⟩⟩⟩
/-! ### repr(x) by an own __repr__ -/
structure RpOk (X : Cx) (c : Cl) (n : Str) (run : Fn) : Prop where
  go : ∀ C, c.adr n = some C → ∃ (f : Addr) (fd : FuncData) (ps : List Str) (k : Nat), PySem.W.findIn X.K (.ref C) "__repr__" = some (some (.ref f)) ∧ PySem.W.isFn X.K (.ref f) = true ∧ FnOk X.prog X.w X.K X.mg X.base (L2.CX X.prog X.w) k f fd ps (spF c 1 run) ∧ Room (k + 1) X.A ∧ Binds X.K fd ps []
def isText : D → MS → Res D
  | .str s, M => .ok (.str s) M
  | _, _ => .stuck
def fRepr (T : List (Str × Fn)) : Fn := fun ds M => match ds with
  | [d] => match insOf d M with
    | some (n, _) => match T.lookup n with
      | some run => (calmly (run [d] M)).bind isText
      | none => .stuck
    | none => .stuck
  | _ => .stuck
def rReprO (X : Cx) (c : Cl) : List V → Hp → VK → Prop := fun vs H Q => ∃ b C dx fv run, vs = [.ref b] ∧ H b = some (.ins C dx fv) ∧ (∃ (f : Addr) (fd : FuncData) (ps : List Str) (k : Nat), PySem.W.findIn X.K (.ref C) "__repr__" = some (some (.ref f)) ∧ PySem.W.isFn X.K (.ref f) = true ∧ FnOk X.prog X.w X.K X.mg X.base (L2.CX X.prog X.w) k f fd ps (spF c 1 run) ∧ Room (k + 1) X.A ∧ Binds X.K fd ps []) ∧
  spF c 1 run [.ref b] H (fun v H' => ∃ z, v = .str z ∧ Q (.str z) H') E0
theorem call_reprO (hc : X.calm = true) : CallR X (.builtin "repr") (rReprO X c) := by
  intro pins s σ H vs us Q I r h
  obtain ⟨b, C, dx, fv, run, rfl, ha, ⟨f, fd, ps, k, h1, h2, F, hr, hbd⟩, q⟩ := h
  cases r with
  | cons r0 rt =>
    cases rt
    rename_i u
    have hu : u = Value.ref b := r0
    subst hu
    obtain ⟨mA, J, _⟩ := ins_get I.hok ha
    obtain ⟨od, J, _⟩ := J.look
    obtain ⟨m0, hF⟩ := I.fr
    have hl : ([Value.ref b] ++ []).length = ps.length := (F.len _ _ _ _ q)
    have B := hbd s [.ref b] I.kIn hl
    rw [List.append_nil] at B
    refine PySem.W.repr_K hr.in1.units0 hF I.ok.mod.kin J h1 h2 (wpAny_call (codeAny_mono (F.run X.A.in1 X.stack s H ⟨[.ref b], []⟩ [.ref b] [.ref b] _ E0 hr.in1 I.env0.in1 B (.cons rfl .nil) q) fun r s' hq => ?_))
    cases r with
    | error er => exact (passes_call (X := X) (W := W0) no_takes (fun _ _ _ _ z => z)) pins σ H s er s' I hq
    | ok fl =>
      cases fl with
      | ret u =>
        obtain ⟨v, H', I3, rv, z, rfl, q3⟩ := I.after hq
        obtain ⟨t, rfl⟩ := rv
        exact ⟨.str z, H', I3, ⟨t, rfl⟩, q3⟩
      | next => exact False.elim hq
      | brk => exact False.elim hq
      | cont => exact False.elim hq
theorem c_repr {T : List (Str × Fn)} (hT : ∀ n run, T.lookup n = some run → RpOk X c n run) : CallD c (rReprO X c) (fRepr T) := fun θ P H M ds vs Q Wx w r o => by
  match ds, o with
  | [d], o =>
    obtain ⟨v, rfl, r1⟩ := r.inv1
    unfold fRepr at o
    cases q : insOf d M with
    | none => simp only [q] at o; exact o.elim
    | some nf =>
      obtain ⟨n, fs⟩ := nf
      simp only [q] at o
      obtain ⟨b, C, dx, fv, rfl, k0, k1, k2⟩ := ins_read w r1 q
      cases q2 : T.lookup n with
      | none => simp only [q2] at o; exact o.elim
      | some run =>
        simp only [q2] at o
        refine ⟨b, C, dx, fv, run, rfl, k1, (hT n run q2).go C k0, [d], M, θ, P, w, ⟨_, [], rfl, r1, rfl⟩, rfl, Out.calm (Out.bind (R := RV c) o fun d2 M2 v2 H2 θ2 P2 w2 s2 r2 o2 => ?_)⟩
        cases d2 with
        | str z => cases r2; exact ⟨z, rfl, Out.now (R := RV c) w2 o2 rfl⟩
        | _ => exact o2.elim
end
end Q

namespace Q
open PySem PySem.Spec PyProof.Rows L2

section
variable {X : Cx} {c : Cl} {W : WX}
/-! ### tuple(range(a, b)), list(range(a, b)) -/
def rgD (i j : Int) : List D := upto i (j - i).toNat
theorem rg_rel {θ : List Addr} {P : Hp} (i j : Int) : VRL c θ P (rgD i j) (rgV i j) := by
  unfold rgD rgV upto
  generalize List.range (j - i).toNat = l
  induction l with
  | nil => rfl
  | cons k l ih => exact ⟨_, _, rfl, rfl, ih⟩
def rgOk (i j : Int) : Bool := decide (-4611686018427387904 ≤ i ∧ i < 4611686018427387904 ∧ -4611686018427387904 ≤ j ∧ j < 4611686018427387904 ∧ (j - i).toNat ≤ 16777216)
theorem rgOk_ok {i j : Int} (h : rgOk i j = true) : RgOk i j := by
  obtain ⟨h1, h2, h3, h4, h5⟩ := of_decide_eq_true h
  exact ⟨by omega, by omega, by omega, by omega, by omega⟩
def rTupRg (a : Rn (List D)) : Rn D := fun ρ M => (a ρ M).bind fun ds M1 => match ds with
  | [.int i, .int j] => rGuard (rgOk i j) (.ok (.tup (rgD i j)) M1)
  | [.int j] => rGuard (rgOk 0 j) (.ok (.tup (rgD 0 j)) M1)
  | _ => .stuck
theorem s_tupRg2 {e : Expr} {ra rb : Rn D} (h : PE X e (tTupRg (tRg2 (liftE c W ra) (liftE c W rb)))) : PE X e (liftE c W (rTupRg (rCons ra (rCons rb rNil)))) :=
  PE.imp h fun σ H Q ⟨ρ, M, θ, P, w, er, o⟩ => by
    have o' : OutE c θ P H Q (fun cv dd H' => W cv dd σ H') ((ra ρ M).bind fun x M1 => (rb ρ M1).bind fun y M2 => match x, y with
        | .int i, .int j => rGuard (rgOk i j) (.ok (.tup (rgD i j)) M2)
        | _, _ => .stuck) := by
      have e : rTupRg (rCons ra (rCons rb rNil)) ρ M = ((ra ρ M).bind fun x M1 => (rb ρ M1).bind fun y M2 => match x, y with
        | .int i, .int j => rGuard (rgOk i j) (.ok (.tup (rgD i j)) M2)
        | _, _ => .stuck) := by
        unfold rTupRg rCons rNil
        cases q : ra ρ M with
        | ok x M1 =>
          cases q2 : rb ρ M1 with
          | ok y M2 => simp only [Res.bind, q2]; cases x <;> cases y <;> rfl
          | err n fs M2 => simp only [Res.bind, q2]
          | stuck => simp only [Res.bind, q2]
        | err n fs M1 => rfl
        | stuck => rfl
      rw [← e]
      exact o
    exact ⟨ρ, M, θ, P, w, er, Out.bind (R := RV c) o' fun x M1 v H1 θ1 P1 w1 s1 r1 o1 => ⟨ρ, M1, θ1, P1, w1, er.step s1, Out.bind (R := RV c) o1 fun y M2 u H2 θ2 P2 w2 s2 r2 o2 => by
      cases x with
      | int i =>
        cases y with
        | int j =>
          cases r1; cases r2
          obtain ⟨g, o2⟩ := Out.guard (R := RV c) o2
          exact ⟨i, j, rfl, rfl, rgOk_ok g, fun q hq => new_tup w2 hq (rg_rel i j) o2⟩
        | _ => exact o2.elim
      | _ => exact o2.elim⟩⟩
/-! ### a class's constant -/
def CvOk (c : Cl) (T : List (Str × D)) (f : Str) : Prop := ∀ n d, T.lookup n = some d → ∀ C, c.adr n = some C → ClX.CRead c.K C (.type "type") ∧ ∃ v u, ClX.CVal c.K C (.type "type") f v u ∧ ∀ θ P, VR c θ P d v
def opCv (T : List (Str × D)) (d : D) (M : MS) : Res D := match d with
  | .cls n => match T.lookup n with
    | some x => .ok x M
    | none => .stuck
  | _ => .stuck
theorem s_cv {T : List (Str × D)} {e : Expr} {f : Str} {pos : Pos} {a : Rn D} (hK : c.K = X.K) (O : CvOk c T f) (h : PE X e (liftE c W a)) (hb : attributeBase e f X.env (eval e X.env) = eval e X.env := by rfl) : PE X (.Attribute e f pos) (liftE c W (rU (opCv T) a)) :=
  PE.imp (ClX.pe_cval h hb) fun σ H Q ⟨ρ, M, θ, P, w, er, o⟩ => ⟨ρ, M, θ, P, w, er, Out.bind (R := RV c) o fun d M1 v H1 θ1 P1 w1 s1 r1 o1 => by
    unfold opCv at o1
    cases d with
    | cls n =>
      cases q : T.lookup n with
      | none => simp only [q] at o1; exact o1.elim
      | some x =>
        simp only [q] at o1
        obtain ⟨C, hC, rfl⟩ := r1
        obtain ⟨h1, v, u, h2, h3⟩ := O n x q C hC
        rw [hK] at h1 h2
        exact ⟨C, _, v, u, rfl, h1, h2, Out.now (R := RV c) w1 o1 (h3 _ _)⟩
    | _ => exact o1.elim⟩
end
end Q

namespace Q
open PySem PySem.Spec PyProof.Rows L2

/-! ### exception classes: what the head checks -/
def exB (K : PySem.W.Frag) (tl : List Value) (newId : String) (C : Addr) : Bool := match K.lookup C with
  | some ⟨.type t, _, .cls cd, sl⟩ => (match cd.mro, sl.toList with
    | .ref C' :: bm, [_, _, _, _, some (.builtin n), _] => decide (t = "type") && (decide (C' = C) && (decide (n = newId) && (!cd.hasDel && (cd.hasDict && endsIn tl bm))))
    | _, _ => false)
  | _ => false
theorem exB_ok {K : PySem.W.Frag} {tl : List Value} {newId : String} {C : Addr} (h : exB K tl newId C = true) : ∃ nm q N bs bm sn sub ab col dd k0 k1 k2 k3 k5, K.lookup C = some (excClassObj nm q C N bs bm true sn sub ab col dd k0 k1 k2 k3 k5 newId) ∧ endsIn tl bm = true := by
  unfold exB at h
  split at h
  · rename_i t dd cd sl hl
    split at h
    · rename_i C' bm k0 k1 k2 k3 n k5 hm hs
      obtain ⟨e1, h⟩ := He.ba h
      obtain ⟨e2, h⟩ := He.ba h
      obtain ⟨e3, h⟩ := He.ba h
      obtain ⟨e4, h⟩ := He.ba h
      obtain ⟨e5, e6⟩ := He.ba h
      obtain ⟨nm, bs, mro, ns, qn, hd, sn, sb, ab, col, del⟩ := cd
      simp only at hm e4 e5
      have f1 := of_decide_eq_true e1
      have f2 := of_decide_eq_true e2
      have f3 := of_decide_eq_true e3
      have f4 : del = false := by simpa using e4
      subst f1 f2 f3 f4 hm e5
      have hsl : sl = #[k0, k1, k2, k3, some (.builtin n), k5] := by
        have z := congrArg List.toArray hs
        simpa using z
      subst hsl
      exact ⟨nm, qn, ns, bs, bm, sn, sb, ab, col, dd, k0, k1, k2, k3, k5, hl, e6⟩
    · cases h
  · cases h
/-- all that is asked of an exception class x: its base's mro and __new__; the fields' names -/
def exAll (K : PySem.W.Frag) (tl : List Value) (newId : String) (C : Addr) (fs : List Str) : Bool :=
  exB K tl newId C && (He.eqO (PySem.W.findIn K (.ref C) "__setattr__") (some (some (.builtin "object.__setattr__"))) && (PySem.W.keepIn K (.ref C) && (xfB K C && ((fs.all fun f => He.eqO (PySem.W.findIn K (.ref C) f) (some none)) &&
    (decide (PySem.W.subIn K (.ref C) (.type "BaseException") = some true) && decide (PySem.W.typeIn K (.ref C) = some (.type "type")))))))
theorem exAll_ok {K : PySem.W.Frag} {tl : List Value} {newId : String} {C : Addr} {fs : List Str} (h : exAll K tl newId C fs = true) : ExC K tl newId C ∧ XfC K C ∧ (∀ f ∈ fs, PySem.W.findIn K (.ref C) f = some none) ∧ PySem.W.subIn K (.ref C) (.type "BaseException") = some true ∧ PySem.W.typeIn K (.ref C) = some (.type "type") := by
  obtain ⟨h1, h⟩ := He.ba h
  obtain ⟨h2, h⟩ := He.ba h
  obtain ⟨h3, h⟩ := He.ba h
  obtain ⟨h4, h⟩ := He.ba h
  obtain ⟨h5, h⟩ := He.ba h
  obtain ⟨h6, h7⟩ := He.ba h
  exact ⟨⟨exB_ok h1, He.eqO_ok h2, h3⟩, xfB_ok h4, fun f m => He.eqO_ok (List.all_eq_true.mp h5 f m), of_decide_eq_true h6, of_decide_eq_true h7⟩
end Q

namespace Q
open PySem PySem.Spec PyProof.Rows L2

/-! ### zip of two lists or of two tuples -/
section
variable {X : Cx} {c : Cl} {W : WX} {θ0 : List Addr} {P0 H0 : Hp} {ds es : List D} {vs us : List V} {a b : Addr}
theorem src_zipT (K : PySem.W.Frag) (hK : c.K = K) (r : VRL c θ0 P0 ds vs) (sq : SqT K P0 a vs) (r2 : VRL c θ0 P0 es us) (sq2 : SqT K P0 b us) : SrcOk c θ0 P0 H0 (paired ds es) (RZ.ItzT K a b) := fun i θ P H M w s => by
  have k1 : SqT K H a vs := sqT_mono (fun b o e => w.sub b o (s.pext b o e)) sq
  have k2 : SqT K H b us := sqT_mono (fun b o e => w.sub b o (s.pext b o e)) sq2
  refine ⟨fun d e => ?_, fun hl => ⟨vs, us, k1, k2, by rw [r.length, r2.length]; simp [paired] at hl; omega⟩⟩
  obtain ⟨x, y, e1, e2, rfl⟩ := paired_get e
  obtain ⟨v, e3, rv⟩ := r.get e1
  obtain ⟨u, e4, ru⟩ := r2.get e2
  refine ⟨⟨vs, us, v, u, k1, k2, e3, e4⟩, fun x H' ⟨T, z, z', hx, hT, hH, hz, hz'⟩ => ?_⟩
  have t1 := hz vs k1
  have t2 := hz' us k2
  rw [e3] at t1; cases t1
  rw [e4] at t2; cases t2
  obtain ⟨w', s'⟩ := w.newP (o := .tup [v, u]) hT
  exact ⟨_, by rw [hH]; exact w', by rw [hH]; exact s', T, _, hx, .inl (.inl upd_same), ⟨v, [u], rfl, (rv.step s).step s', u, [], rfl, (ru.step s).step s', rfl⟩⟩
def rZipA (a : Rn (List D)) : Rn (List D) := fun ρ M => (a ρ M).bind fun ds M1 => match ds with
  | [.lst xs, .lst ys] => .ok (paired xs ys) M1
  | [.tup xs, .tup ys] => .ok (paired xs ys) M1
  | _ => .stuck
theorem i_zipA {tg e : Expr} {ra : Rn (List D)} (hK : c.K = X.K) (hp : PI X tg e (RZ.iZipA X.K (liftA c W ra))) : PI X tg e (liftI c W (rZipA ra)) :=
  PI.imp hp fun σ H R ⟨ρ, M, θ, P, w, er, o⟩ => ⟨ρ, M, θ, P, w, er, Out.bind (R := RL c) o fun ds M1 vs H1 θ1 P1 w1 s1 r1 o1 => by
    match ds, o1 with
    | [.lst xs, .lst ys], o1 =>
      obtain ⟨v, r, rfl, ⟨a, ws, rfl, sq, rl⟩, v', r', rfl, ⟨a', ws', rfl, sq', rl'⟩, rfl⟩ := r1
      have q1 : SqL X.K P1 a ws := .inl (.inl sq)
      have q2 : SqL X.K P1 a' ws' := .inl (.inl sq')
      exact ⟨a, a', ws, ws', rfl, .inl ⟨sqL_mono w1.sub q1, sqL_mono w1.sub q2, Out.now (R := RI c) w1 o1 (src_zip X.K hK rl q1 rl' q2)⟩⟩
    | [.tup xs, .tup ys], o1 =>
      obtain ⟨v, r, rfl, ⟨a, ws, rfl, sq, rl⟩, v', r', rfl, ⟨a', ws', rfl, sq', rl'⟩, rfl⟩ := r1
      rw [hK] at sq sq'
      exact ⟨a, a', ws, ws', rfl, .inr ⟨sqT_mono w1.sub sq, sqT_mono w1.sub sq', Out.now (R := RI c) w1 o1 (src_zipT X.K hK rl sq rl' sq')⟩⟩⟩
end
end Q

namespace Q
open PySem PySem.Spec PyProof.Rows L2

/-! ### bindings that take defaults: its the defaults, mv the keyword-only ones that lack (named ms) -/
section
variable {K : PySem.W.Frag} {d : DefQ} {f : Addr} {fd : FuncData} {ps ks : List Str} {ix : List Ar} {np : Nat}
/-- both kinds of defaults -/
theorem bnd_both (G : FunQ K d f fd) (ms : List (Str × V)) (hd : d.dfl ≠ []) (hk : d.kwd ≠ []) (hms : ∀ q ∈ ms, q ∈ d.kws K)
    (h : ∀ (clo : List (Str × Addr)) (T D : Addr) (doc pm : Value) (an : Option Addr) (cdv ct : Value) (us its mv ws : List Value), us.length = np → its.length = d.dfl.length → mv.length = ms.length → ws.length = ks.length →
      ∃ k, bindArgs (PySem.W.fnX d.name d.qual d.params d.body d.scope clo (.ref T) (.ref D) doc pm an cdv ct) ⟨us, ks.zip ws⟩ = seqItems? (.ref T) >>= k ∧ KwChain D ((ms.map (·.1)).zip mv) (k (some its.toArray)) (ps.zip (arr ix us ws (its ++ mv)))) :
    ∃ dv : List Value, Vals (d.dvs K ++ ms.map (·.2)) dv ∧ Bnd K fd ps np ks ix dv := by
  obtain ⟨clo, oc, od, dV, kV, doc, pm, an, cdv, ct, osl, rfl, hcl, lk, k1, hD, hK⟩ := G.ex
  have n1 : d.dvs K ≠ [] := fun z => hd (List.map_eq_nil_iff.mp z)
  have n2 : d.kws K ≠ [] := fun z => hk (List.map_eq_nil_iff.mp z)
  rcases hD with ⟨e, _⟩ | ⟨_, T, o, its, m, rfl, lT, oT, rT⟩
  · exact absurd e n1
  · rcases hK with e | ⟨D, rfl, hq⟩
    · exact absurd e n2
    · obtain ⟨mv, hl, rk, hks⟩ := kwd_vals (ms := ms) fun q hm => hq q (hms q hm)
      have il : its.length = d.dfl.length := by rw [← rT.length]; simp [DefQ.dvs]
      refine ⟨its ++ mv, rT.append rk, ⟨fun s us ws KX l1 l2 => ?_⟩⟩
      obtain ⟨k, e1, e2⟩ := h clo T D doc pm an cdv ct us its mv ws l1 il hl l2
      refine BindsTo.of_looks fun M => ?_
      rw [e1]
      exact looks_items KX lT oT (KwChain.looks KX hks e2)
/-- keyword-only defaults alone -/
theorem bnd_kw (G : FunQ K d f fd) (ms : List (Str × V)) (hd : d.dfl = []) (hk : d.kwd ≠ []) (hms : ∀ q ∈ ms, q ∈ d.kws K)
    (h : ∀ (clo : List (Str × Addr)) (D : Addr) (doc pm : Value) (an : Option Addr) (cdv ct : Value) (us mv ws : List Value), us.length = np → mv.length = ms.length → ws.length = ks.length →
      KwChain D ((ms.map (·.1)).zip mv) (bindArgs (PySem.W.fnX d.name d.qual d.params d.body d.scope clo .none (.ref D) doc pm an cdv ct) ⟨us, ks.zip ws⟩) (ps.zip (arr ix us ws mv))) :
    ∃ dv : List Value, Vals (ms.map (·.2)) dv ∧ Bnd K fd ps np ks ix dv := by
  obtain ⟨clo, oc, od, dV, kV, doc, pm, an, cdv, ct, osl, rfl, hcl, lk, k1, hD, hK⟩ := G.ex
  have n1 : d.dvs K = [] := by unfold DefQ.dvs; rw [hd]; rfl
  have n2 : d.kws K ≠ [] := fun z => hk (List.map_eq_nil_iff.mp z)
  rw [n1] at hD
  rcases hD with ⟨_, rfl⟩ | ⟨e, _⟩
  · rcases hK with e | ⟨D, rfl, hq⟩
    · exact absurd e n2
    · obtain ⟨mv, hl, rk, hks⟩ := kwd_vals (ms := ms) fun q hm => hq q (hms q hm)
      refine ⟨mv, rk, ⟨fun s us ws KX l1 l2 => ?_⟩⟩
      refine BindsTo.of_looks fun M => ?_
      exact KwChain.looks KX hks (h clo D doc pm an cdv ct us mv ws l1 hl l2)
  · exact absurd rfl e
end
end Q

namespace Q
open PySem PySem.Spec PyProof.Rows L2

section
variable {X : Cx} {c : Cl} {m x : Str} {np k : Nat} {run : Fn} {d : DefQ} {ps : List Str}
/-- the base's method for super().m, by the head's fact -/
theorem supM_of (hK : c.K = X.K) (hs : (Fq.sup x m d.at_).ok c.K = true) (F : Dq X.prog X.w c X.mg X.base d k ps run) (hn : ps.length = np + 1) (hr : Room (k + 1) X.A) (hd : d.dfl = [])
    (hb : ∀ (clo : List (Str × Addr)) (kV doc pm : Value) (an : Option Addr) (cdv ct : Value) (us : List Value), us.length = ps.length → bindArgs (PySem.W.fnX d.name d.qual d.params d.body d.scope clo .none kV doc pm an cdv ct) ⟨us, []⟩ = pure (ps.zip us)) : SupM X c (He.ga c.K x) m np run := by
  obtain ⟨fd, h1, h2⟩ := F.ex
  have hs' : (He.eqO (PySem.W.ks_superIn c.K (He.ga c.K x) (He.ga c.K x) m) (some (some (.ref (adr c.K d.at_)))) && (decide (PySem.W.typeIn c.K (.ref (adr c.K d.at_)) = some (.type "function")) && PySem.W.fnIn c.K (adr c.K d.at_))) = true := hs
  obtain ⟨f1, f2⟩ := He.ba hs'
  obtain ⟨f2, f3⟩ := He.ba f2
  rw [hn] at h1
  refine ⟨adr c.K d.at_, fd, ps, k, ?_, ?_, ?_, ?_, hr, ?_⟩
  · have z := He.eqO_ok f1
    rw [hK] at z ⊢
    exact z
  · have z := of_decide_eq_true f2
    rw [hK] at z ⊢
    exact z
  · rw [hK] at f3 ⊢
    exact f3
  · rw [hK] at h1 ⊢
    exact h1
  · have z := h2.bindsN hd hb
    rw [hK] at z
    exact z
end
end Q

set_option maxHeartbeats 4000000
namespace Q
open PySem PySem.Spec PyProof.Rows L2 LamX

/-! ### addresses taken out of a heap, and put back -/
open Classical in
noncomputable def delS (S : Addr → Prop) (H : Hp) : Hp := fun b => if S b then none else H b
open Classical in
noncomputable def addS (S : Addr → Prop) (H0 H : Hp) : Hp := fun b => if S b then H0 b else H b
section
variable {S : Addr → Prop} {H H0 : Hp} {b : Addr} {o : HO}
theorem delS_in (h : S b) : delS S H b = none := if_pos h
theorem delS_out (h : ¬ S b) : delS S H b = H b := if_neg h
theorem addS_in (h : S b) : addS S H0 H b = H0 b := if_pos h
theorem addS_out (h : ¬ S b) : addS S H0 H b = H b := if_neg h
theorem delS_some (h : delS S H b = some o) : ¬ S b ∧ H b = some o := by
  by_cases q : S b
  · rw [delS_in q] at h; cases h
  · exact ⟨q, by rw [delS_out q] at h; exact h⟩
end
/-- the addresses S hold things told by what is true of them, none of them a code object of a table's -/
structure Cells (T : List (Addr × Str)) (S : Addr → Prop) (H : Hp) : Prop where
  ext : ∀ b, S b → ∃ φ, H b = some (.ext φ)
  code : ∀ b q, S b → H b ≠ some (CodeO b q)
section
variable {c : Cl} {θ θ' : List Addr} {P P' H H' : Hp} {M M' : MS} {S : Addr → Prop}
theorem Cells.out (k : Cells c.tabs S H) {b : Addr} {o : HO} (e : H b = some o) (ho : ∀ φ, o ≠ .ext φ) : ¬ S b := fun q => by
  obtain ⟨φ, z⟩ := k.ext b q
  rw [e] at z
  exact ho φ (Option.some.inj z)
theorem tabs_del (t : Tabs c.tabs H) (k : Cells c.tabs S H) : Tabs c.tabs (delS S H) := fun p hp => by
  obtain ⟨ps, h1, h2, h3⟩ := t p hp
  refine ⟨ps, by rw [delS_out (k.out h1 fun _ z => by cases z)]; exact h1, h2, fun pos cv hc => ?_⟩
  obtain ⟨a, e1, e2⟩ := h3 pos cv hc
  exact ⟨a, e1, by rw [delS_out (fun q => k.code a _ q e2)]; exact e2⟩
theorem Wo.offS (w : Wo c θ P H M) (k : Cells c.tabs S H) {a : Addr} (h : a ∈ θ) : ¬ S a := fun q => by
  obtain ⟨o, e, n⟩ := w.kind h
  obtain ⟨φ, z⟩ := k.ext a q
  rw [e] at z
  exact n (.inl ⟨φ, Option.some.inj z⟩)
/-- the cells are forgotten -/
theorem Wo.del (w : Wo c θ P H M) (k : Cells c.tabs S H) (m : calmM M) : Wo c θ (delS S P) (delS S H) M where
  sub := fun b o e => by
    obtain ⟨q, e⟩ := delS_some e
    rw [delS_out q]
    exact w.sub b o e
  len := w.len
  cell := fun l a mo e1 e2 => (w.cell l a mo e1 e2).calm ⟨rfl, rfl, fun b o e n => by rw [delS_out (k.out (w.sub b o e) n)]; exact e⟩ (fun o e n => by rw [delS_out (k.out e n)]; exact e) (m mo (List.mem_of_getElem? e2))
  off := fun l a mo e1 e2 n => by
    rw [delS_out (w.offS k (mem_of_get e1))]
    exact w.off l a mo e1 e2 n
  inj := w.inj
  there := fun a m => by
    rw [delS_out (w.offS k m)]
    exact w.there a m
  tabs := tabs_del w.tabs k
  ptab := fun b ps e => w.ptab b ps (delS_some e).2
theorem VRL.del (w : Wo c θ P H M) (k : Cells c.tabs S H) {ds : List D} {vs : List V} (r : VRL c θ P ds vs) (m : calmL ds) : VRL c θ (delS S P) ds vs :=
  VRL.calm ⟨rfl, rfl, fun b o e n => by rw [delS_out (k.out (w.sub b o e) n)]; exact e⟩ r m
/-- .. and put back -/
theorem Wo.add (w : Wo c θ P H M) (w' : Wo c θ' P' H' M') (hn : ∀ b, S b → H' b = none) : Wo c θ' (addS S P P') (addS S H H') M' where
  sub := fun b o e => by
    by_cases q : S b
    · rw [addS_in q] at e ⊢; exact w.sub b o e
    · rw [addS_out q] at e ⊢; exact w'.sub b o e
  len := w'.len
  cell := fun l a mo e1 e2 => by
    have na : ¬ S a := fun q => w'.there a (mem_of_get e1) (hn a q)
    refine (w'.cell l a mo e1 e2).mono (fun _ _ e => e) (fun b o e => ?_) (addS_out na)
    by_cases q : S b
    · have := w'.sub b o e
      rw [hn b q] at this; cases this
    · rw [addS_out q]; exact e
  off := fun l a mo e1 e2 n => by
    have na : ¬ S a := fun q => w'.there a (mem_of_get e1) (hn a q)
    rw [addS_out na]
    exact w'.off l a mo e1 e2 n
  inj := w'.inj
  there := fun a m => by
    have na : ¬ S a := fun q => w'.there a m (hn a q)
    rw [addS_out na]
    exact w'.there a m
  tabs := w'.tabs.ext fun b o e => by
    have q : ¬ S b := fun q => by rw [hn b q] at e; cases e
    rw [addS_out q]; exact e
  ptab := fun b ps e => by
    by_cases q : S b
    · rw [addS_in q] at e; exact w.ptab b ps e
    · rw [addS_out q] at e; exact w'.ptab b ps e
theorem pAdd (w' : Wo c θ' P' H' M') (hn : ∀ b, S b → H' b = none) : ∀ b o, P' b = some o → addS S P P' b = some o := fun b o e => by
  have q : ¬ S b := fun q => by
    have := w'.sub b o e
    rw [hn b q] at this; cases this
  rw [addS_out q]; exact e
theorem Stp.add (w : Wo c θ P H M) (k : Cells c.tabs S H) (w' : Wo c θ' P' H' M') (s : Stp θ (delS S P) (delS S H) θ' P' H') (hn : ∀ b, S b → H' b = none) : Stp θ P H θ' (addS S P P') (addS S H H') where
  pre := s.pre
  keep := fun b o e n nt => by
    by_cases q : S b
    · rw [addS_in q]; exact e
    · rw [addS_out q]; exact s.keep b o (by rw [delS_out q]; exact e) n nt
  pext := fun b o e => by
    by_cases q : S b
    · rw [addS_in q]; exact e
    · rw [addS_out q]; exact s.pext b o (by rw [delS_out q]; exact e)
  new := fun b m => by
    have q : ¬ S b := fun q => w'.there b m (hn b q)
    have := s.new b m
    rw [delS_out q] at this
    exact this
  pnew := fun b o e => by
    by_cases q : S b
    · rw [addS_in q] at e; exact .inl e
    · rw [addS_out q] at e
      have := s.pnew b o e
      rw [delS_out q, delS_out q] at this
      exact this
  there := fun b n => by
    by_cases q : S b
    · rw [addS_in q]; exact n
    · rw [addS_out q]; exact s.there b (by rw [delS_out q]; exact n)
/-- a run's wish, the cells forgotten -/
theorem OutE.del {Q : V → Hp → Prop} {E : Value → Option Addr → Hp → Prop} {r : Res D} (w : Wo c θ P H M) (k : Cells c.tabs S H) (o : OutE c θ P H Q E r) :
    OutE c θ (delS S P) (delS S H) (fun v H' => (∀ b, S b → H' b = none) → Q v (addS S H H')) (fun cv dd H' => (∀ b, S b → H' b = none) → E cv dd (addS S H H')) r := by
  cases r with
  | stuck => exact o
  | ok d M' => exact fun v H' θ' P' w' s r hn => o v _ θ' _ (w.add w' hn) (s.add w k w' hn) (VR.mono (fun _ _ e => e) (pAdd w' hn) r)
  | err n fs M' =>
    rintro cv dd H' θ' P' w' s ⟨C, d, fv, h1, h2, h3, h4, h5⟩ hn
    exact o cv dd _ θ' _ (w.add w' hn) (s.add w k w' hn) ⟨C, d, fv, h1, h2, h3, pAdd w' hn _ _ h4, VRF.mono (fun _ _ e => e) (pAdd w' hn) h5⟩
end
end Q

namespace Q
open PySem PySem.Spec PyProof.Rows L2 LamX NdefX

/-! ### a lambda's run -/
abbrev LamTx.nf (t : LamTx) (cl : List (Str × Addr)) (c' : Addr) : NF := ⟨"<lambda>", t.qual, t.params, [], t.scope, cl, c'⟩
/-- the k-th lambda: run, of what it captured -/
structure LOk (P : Program) (w : World) (c : Cl) (mg : Str → Option Value) (base : Heap) (lv : Nat) (k : Nat) (run : Fn) : Prop where
  go : ∀ (t : LamTx), c.lams[k]? = some t → ∀ (f c' : Addr) (cl : List (Str × Addr)) (A : Around) (outer : List Env) (s : Shared) (H : Hp) (ds : List D) (ws : List V) (θ : List Addr) (Pp : Hp) (M : MS) (Q : VK) (E : XK), Room lv A → Env0 P w c.K mg base A outer s H →
    Pp f = some (LamO t cl c' f) → Pp c' = some (CodeO c' t.qual) → CellsP Pp cl t.fr ws → Wo c θ Pp H M → VRL c θ Pp ds ws → calmL ds → calmM M → OutE c θ Pp H Q (fun cv dd H' => E cv dd H') (run ds M) →
    codeAny (model P w) A (.call (.ref f) ⟨[], []⟩) (CR (L2.CX P w) outer P w H s Q E) s
theorem LOk.mono {P : Program} {w : World} {c : Cl} {mg : Str → Option Value} {base : Heap} {i j k : Nat} {run : Fn} (L : LOk P w c mg base i k run) (h : i ≤ j) : LOk P w c mg base j k run :=
  ⟨fun t ht f c' cl A outer s H ds ws θ Pp M Q E hr => L.go t ht f c' cl A outer s H ds ws θ Pp M Q E (hr.mono h)⟩
theorem LOk.never {P : Program} {w : World} {c : Cl} {mg : Str → Option Value} {base : Heap} {lv k : Nat} (h : c.lams[k]? = none) {run : Fn} : LOk P w c mg base lv k run := ⟨fun t ht => by rw [h] at ht; cases ht⟩
section
variable {P : Program} {w : World} {c : Cl} {mg : Str → Option Value} {base : Heap} {lv k : Nat} {t : LamTx} {N : List Str} {body : Rn D}
def lamRun (n : Nat) (body : Rn D) : Fn := fun ds M => body (ds.map some ++ List.replicate (n - ds.length) none) M
theorem hok_ext {H : Hp} {h : Heap} (hok : HOk P w H h) {a : Addr} {oc : Obj} (e : H a = some (exq a oc)) : h.get? a = some oc := (hok a _ e).1
theorem hok_del {S : Addr → Prop} {H : Hp} {h : Heap} (hok : HOk P w H h) (hS : ∀ b, S b → ∃ φ, H b = some (.ext φ)) : HOk P w (delS S H) h := fun a o e => by
  obtain ⟨q, e⟩ := delS_some e
  have out : ∀ b u, H b = some u → (∀ φ, u ≠ .ext φ) → delS S H b = some u := fun b u e n => by
    rw [delS_out (fun q => by obtain ⟨φ, z⟩ := hS b q; rw [e] at z; exact n φ (Option.some.inj z))]
    exact e
  exact (hok a o e).stay (fun _ _ _ e => e) (fun b e => out b _ e fun _ z => by cases z) fun b xs e => out b _ e fun _ z => by cases z
theorem un_add {fs : List Addr} {S : Addr → Prop} {H H' : Hp} {h h' : Heap} (u : Un fs [] (delS S H) H' h h') (hS : ∀ b, S b → ∃ φ, H b = some (.ext φ)) (hn : ∀ b, S b → H' b = none) : Un fs [] H (addS S H H') h h' where
  keep := fun b o e n => u.keep b o e (by unfold delS; split; rfl; exact n)
  slot := fun b o e n => u.slot b o e (by unfold delS; split; rfl; exact n)
  free := fun b o e n x => by
    by_cases q : S b
    · rw [addS_in q]; exact n
    · rw [addS_out q]; exact u.free b o e (by rw [delS_out q]; exact n) x
  there := u.there
  tups := fun b xs e => by
    have q : ¬ S b := fun q => by obtain ⟨φ, z⟩ := hS b q; rw [e] at z; cases z
    rw [addS_out q]; exact u.tups b xs (by rw [delS_out q]; exact e)
  frzs := fun b o x e => by
    have q : ¬ S b := fun q => by obtain ⟨φ, z⟩ := hS b q; rw [e] at z; cases z
    rw [addS_out q]; exact u.frzs b o x (by rw [delS_out q]; exact e)
  tbls := fun b ps e => by
    have q : ¬ S b := fun q => by obtain ⟨φ, z⟩ := hS b q; rw [e] at z; cases z
    rw [addS_out q]; exact u.tbls b ps (by rw [delS_out q]; exact e)
theorem ub_add {fs : List Addr} {S : Addr → Prop} {H H' : Hp} {h B h' : Heap} (u : UB fs (delS S H) H' h B h') (hS : ∀ b, S b → ∃ φ, H b = some (.ext φ)) : UB fs H (addS S H H') h B h' where
  keep := fun b o e n => u.keep b o e (by unfold delS; split; rfl; exact n)
  slot := u.slot
  free := fun b o e n => by
    by_cases q : S b
    · rw [addS_in q]; exact n
    · rw [addS_out q]; exact u.free b o e (by rw [delS_out q]; exact n)
  there := u.there
  tups := fun b xs e => by
    have q : ¬ S b := fun q => by obtain ⟨φ, z⟩ := hS b q; rw [e] at z; cases z
    rw [addS_out q]; exact u.tups b xs (by rw [delS_out q]; exact e)
  frzs := fun b o x e => by
    have q : ¬ S b := fun q => by obtain ⟨φ, z⟩ := hS b q; rw [e] at z; cases z
    rw [addS_out q]; exact u.frzs b o x (by rw [delS_out q]; exact e)
  tbls := fun b ps e => by
    have q : ¬ S b := fun q => by obtain ⟨φ, z⟩ := hS b q; rw [e] at z; cases z
    rw [addS_out q]; exact u.tbls b ps (by rw [delS_out q]; exact e)
/-- cells that are put back, each the very object it was -/
theorem hok_add {S : Addr → Prop} {H H' : Hp} {h : Heap} (hok : HOk P w H' h) (hS : ∀ b, S b → ∃ oc, H b = some (exq b oc) ∧ h.get? b = some oc) (hn : ∀ b, S b → H' b = none) : HOk P w (addS S H H') h := fun a o e => by
  by_cases q : S a
  · rw [addS_in q] at e
    obtain ⟨oc, e1, e2⟩ := hS a q
    rw [e1] at e; cases e
    exact ⟨e2, ⟨oc, e2⟩, fun h1 h2 z st => st _ z⟩
  · rw [addS_out q] at e
    have out : ∀ b u, H' b = some u → addS S H H' b = some u := fun b u e => by
      rw [addS_out (fun q => by rw [hn b q] at e; cases e)]; exact e
    exact (hok a o e).stay (fun _ _ _ e => e) (fun b e => out b _ e) fun b xs e => out b _ e
/-- the addresses of captured cells -/
def capS (cl : List (Str × Addr)) : Addr → Prop := fun b => ∃ y, cl.lookup y = some b
theorem cells_of_P {cl : List (Str × Addr)} {fr : List Str} {ws : List V} {θ : List Addr} {Pp H : Hp} {M : MS} {s : Shared} (C : CellsP Pp cl fr ws) (w0 : Wo c θ Pp H M) (hok : HOk P w H s.heap) : Cells c.tabs (capS cl) H := by
  refine ⟨fun b ⟨y, e⟩ => ?_, fun b q ⟨y, e⟩ z => ?_⟩
  · obtain ⟨oc, v, h1, _⟩ := C.all y b e
    exact ⟨_, w0.sub _ _ h1⟩
  · obtain ⟨oc, v, h1, h2⟩ := C.all y b e
    obtain ⟨⟨oc', vs, tt, g1, g2, _⟩, _, _⟩ := hok b _ z
    rw [hok_ext hok (w0.sub _ _ h1)] at g1
    cases g1
    rw [h2] at g2; cases g2
theorem cellsAt_of {cl : List (Str × Addr)} {fr : List Str} {ws : List V} {θ : List Addr} {Pp H : Hp} {M : MS} {s : Shared} (C : CellsP Pp cl fr ws) (w0 : Wo c θ Pp H M) (hok : HOk P w H s.heap) : CellsAt cl fr (ws.map some) s.heap (delS (capS cl) H) where
  len := by rw [List.length_map]; exact C.len
  all := fun y b e => by
    obtain ⟨oc, v, h1, h2⟩ := C.all y b e
    exact ⟨delS_in ⟨y, e⟩, v, oc, hok_ext hok (w0.sub _ _ h1), h2⟩
  inj := C.inj
  has := fun i y e => by
    obtain ⟨cc, oc, u, v, h1, h2, h3, h4, h5⟩ := C.has i y e
    refine ⟨cc, h1, fun v' e' => ?_⟩
    rw [List.getElem?_map, h4] at e'
    cases e'
    exact ⟨u, h5, oc, hok_ext hok (w0.sub _ _ h2), h3⟩
theorem lam_ok (ht : c.lams[k]? = some t) (SC : NScope N [] t.fr t.scope) (hbind : ∀ (cl : List (Str × Addr)) (pm cv ctv : Value), bindArgs (PySem.W.kla_fn "<lambda>" t.qual t.params t.body t.scope cl pm cv ctv) ⟨[], []⟩ = pure [])
    (hb : ∀ (f c' : Addr) (cl : List (Str × Addr)) (A : Around) (outer : List Env) (s : Shared) (H : Hp) (E : XK), Room lv (A.deeper (envF (t.nf cl c') f s.heap.objs.size)) → PE (ncx (L2.CX P w) P w c.K mg base N (t.nf cl c') f A outer s H E) t.body (liftE c (fun cls d _ H => E cls d H) body)) :
    LOk P w c mg base (lv + 1) k (lamRun N.length body) := by
  refine ⟨fun t' ht' f c' cl A outer s H ds ws θ Pp M Q E hr e0 hf hc C w0 rd md mm o => ?_⟩
  rw [ht] at ht'; cases ht'
  have lim : s.heap.NoLimit := e0.mod.nolimit.keeps fun b o e => (e0.bs b o e).1
  obtain ⟨⟨pm, ctv, ho⟩, _, _⟩ := e0.hok f _ (w0.sub _ _ hf)
  obtain ⟨⟨oc, vs, tt, hoc, hdc, hvc⟩, _, _⟩ := e0.hok c' _ (w0.sub _ _ hc)
  have kc := cells_of_P C w0 e0.hok
  refine PySem.W.kla_callFunE hr.depth ho rfl SC.co SC.gen rfl ⟨c', oc, vs, tt, rfl, hoc, hdc, hvc⟩ ?_
  rw [hbind]
  refine wpAny_pure (wpAny_newFunctionEnv SC.nocell (fun y hy => absurd hy (by simp)) (fun h₁ hns hsb => ⟨lim.fresh _ hsb, ?_⟩) SC.kind)
  show codeAny _ _ (.expr t.body (envF (t.nf cl c') f s.heap.objs.size)) _ _
  have kp : ∀ b o, s.heap.get? b = some o → h₁.get? b = some o := fun b o e => hsb.extBut b o (Nat.ne_of_lt (Heap.lt_size e)) (Heap.get?_push_of_some _ e)
  have e1 : Env0 P w c.K mg base A outer s (delS (capS cl) H) := ⟨e0.frames, e0.mod, fun b o e => ⟨(e0.bs b o e).1, by unfold delS; split; rfl; exact (e0.bs b o e).2⟩, e0.bsz, e0.funs, fun b m => by unfold delS; split; rfl; exact e0.frf b m, hok_del e0.hok kc.ext, e0.bare⟩
  have I : Inv (ncx (L2.CX P w) P w c.K mg base N (t.nf cl c') f A outer s (delS (capS cl) H) (fun cv dd H' => (∀ b, capS cl b → H' b = none) → E cv dd (addS (capS cl) H H'))) [] (startF N [] (ws.map some)) (delS (capS cl) H) { s with heap := h₁, toks := s.toks + ([] : List (Str × Value)).length } :=
    inv_startN SC hr.hd e1 rfl .nil (cellsAt_of C w0 e0.hok) hns kp
  have cellq : ∀ b, capS cl b → ∃ oc, H b = some (exq b oc) ∧ s.heap.get? b = some oc := fun b ⟨y, e⟩ => by
    obtain ⟨oc, v, h1, _⟩ := C.all y b e
    exact ⟨oc, w0.sub _ _ h1, hok_ext e0.hok (w0.sub _ _ h1)⟩
  refine PySem.W.kla_codeExpr (wpAny_mono ((hb f c' cl A outer s _ _ (hr.deeper _)).run [] _ _ (delS (capS cl) H) (fun v H' => (∀ b, capS cl b → H' b = none) → Q v (addS (capS cl) H H')) I ?_) (fun v s' hq => ?_) fun e s' hq => ?_)
  · refine ⟨ds.map some ++ List.replicate (N.length - ds.length) none, M, θ, delS (capS cl) Pp, w0.del kc mm, ?_, OutE.del w0 kc o⟩
    have hl : ws.length = ds.length := rd.length
    have := er_start (N := N) (w0.del kc mm |> fun _ => VRL.del w0 kc rd md)
    refine ⟨?_, fun i d e => ?_⟩
    · show _ = (startF N [] (ws.map some)).length
      unfold startF
      simp [hl]
    · obtain ⟨v, e1, e2⟩ := this.at_ i d e
      refine ⟨v, ?_, e2⟩
      have q : startF N [] (ws.map some) = L2.start N ws := by unfold startF L2.start; simp
      rw [q]; exact e1
  · obtain ⟨w', H', J', rv, q⟩ := hq
    have hn : ∀ b, capS cl b → H' b = none := fun b ⟨y, e⟩ => J'.freeC y b e
    refine ⟨w', addS (capS cl) H H', J'.os, J'.bare, un_add J'.base kc.ext hn, hok_add J'.hok (fun b hb => ?_) hn, rv, q hn⟩
    obtain ⟨oc, h1, h2⟩ := cellq b hb
    exact ⟨oc, h1, J'.base.keep b oc h2 (delS_in hb) (fun m => by have := e0.frf b m; rw [h1] at this; cases this) (fun m => nomatch (show b ∈ ([] : List Addr) from m))⟩
  · refine wpAny_mono hq (fun _ s'' h => ?_) fun e' s'' h => ?_
    all_goals
      obtain ⟨a, B, H', cls, d, h1, h2, h3, h4, h5, h6, h7, h8⟩ := h
      have hB : ∀ b, capS cl b → ∃ oc, H b = some (exq b oc) ∧ B.get? b = some oc := fun b hb => by
        obtain ⟨oc, z1, z2⟩ := cellq b hb
        exact ⟨oc, z1, h4.keep b oc z2 (delS_in hb) fun m => by have := e0.frf b m; rw [z1] at this; cases this⟩
      have hn : ∀ b, capS cl b → H' b = none := fun b hb => by
        obtain ⟨oc, z1, z2⟩ := cellq b hb
        exact h4.free b oc z2 (delS_in hb)
      refine ⟨a, B, addS (capS cl) H H', cls, d, h1, h2, hok_add h3 hB hn, ub_add h4 kc.ext, ?_, h6, h7, h8 hn⟩
      by_cases q : capS cl a
      · obtain ⟨oc, _, z⟩ := hB a q
        have := h2.2.1
        rw [z] at this; cases this
      · rw [addS_out q]; exact h5
end
end Q

namespace Q
open PySem PySem.Spec PyProof.Rows L2 LamX NdefX

/-! ### a lambda is made -/
section
variable {X : Cx} {pins : List (Addr × Obj)} {σ : L2.St} {H : Hp} {s : Shared} {c : Cl} {W : WX}
theorem inv_lam {t : LamTx} {cl : List (Str × Addr)} {c' : Addr} {t' : Nat} {pm ctv : Value} (I : Inv X pins σ H s) :
    Inv X pins σ (upd H s.heap.objs.size (LamO t cl c' s.heap.objs.size)) { s with heap := s.heap.push (PySem.W.kla_obj "<lambda>" t.qual t.params t.body t.scope cl pm c' ctv), toks := t' } := by
  refine I.laid (a := s.heap.objs.size) (fun b u e => Heap.get?_push_of_some _ e) (Nat.le_refl _) ?_
  have e : (s.heap.push (PySem.W.kla_obj "<lambda>" t.qual t.params t.body t.scope cl pm c' ctv)).get? s.heap.objs.size = some (PySem.W.kla_obj "<lambda>" t.qual t.params t.body t.scope cl pm c' ctv) := Heap.get?_push_size _ rfl
  exact ⟨⟨pm, ctv, e⟩, ⟨_, e⟩, fun h1 h2 ⟨p, q, z⟩ st => ⟨p, q, st _ z⟩⟩
/-- what stands behind the making, ahead of the function object -/
theorem lam_make3 {T : List (Addr × Str)} {cd Pt : Addr} {t : LamTx} {pos : Pos} {E : Value → Shared → Prop} {Q : Value → Shared → Prop} (hq : t.qual = X.env.qual ++ "<lambda>") (I : Inv X pins σ H s) (TB : TabB X.base X.mg cd Pt) (hcode : X.env.code = .ref cd)
    (hm : (Pt, t.qual) ∈ T) (hu : ∀ p ∈ T, p.1 = Pt → p.2 = t.qual) (hT : Tabs T H) (hdef : defaultsOf t.params X.env = ([], [])) (hfree : ∀ y ∈ t.scope.names, y.2 = .free → ∃ c, X.env.cells.lookup y.1 = some c)
    (h : ∀ (f c' : Addr) (H1 : Hp) (s' : Shared), Inv X pins σ H1 s' → ExtN H H1 → (∀ b u, H1 b = some u → H b = some u ∨ H b = none ∨ ∃ ps, u = .tbl ps) → (∀ b ps, H b = some (.tbl ps) → ∃ ps', H1 b = some (.tbl ps')) → (∀ b, H1 b = none → H b = none) → Tabs T H1 → H f = none → H1 f = some (LamO t (cloFrom X.env.cells t.scope.names []) c' f) → H1 c' = some (CodeO c' t.qual) → Q (.ref f) s') :
    wpAny (model X.prog X.w) X.A (eval (.Lambda t.params t.body t.scope pos) X.env) Q E s := by
  obtain ⟨ps, hP, ht, ha⟩ := hT _ hm
  refine PySem.W.kla_eval hdef ?_
  have bP : s.heap.BuiltinsAt X.mg Pt := TB.bm.keeps I.bk
  have hP' : s.heap.get? Pt = some { cls := .none, data := .fields ps } := I.hok Pt _ hP
  have un : ∀ {H : Hp} {a b : Addr} {o : HO}, upd H a o b = none → H b = none := fun {H a b o} e => by
    unfold upd at e; split at e
    · cases e
    · exact e
  cases hc : codeAmong pos ps.toList with
  | none =>
    refine PySem.W.kla_makeFunction (mg := X.mg) (c := cd) (P := Pt) (ps := ps) (closure_ok hfree) I.ok.glob (I.mod.glob.keeps I.bk) hcode (TB.code.keeps I.bk) hP' ht hc TB.gP bP fun c' ctv h' tk hx hge hlt hrec htb => ?_
    obtain ⟨c2, oc, vs, tt, e2, hoc, hd, hv⟩ := hrec
    cases e2
    rw [← hq] at hv ⊢
    have nC : H c' = none := I.hok.fresh hge
    have I1 := inv_table (t' := tk) (more := #[rawInt pos.line, rawInt pos.col, .ref c']) (h' := h') I hP (fun b o hb e => hx b o hb e) htb hge ⟨oc, vs, tt, hoc, hd, hv⟩
    have nPc : Pt ≠ c' := ne_of_none hP nC
    have hE : ExtN H (upd (upd H Pt (.tbl (ps ++ #[rawInt pos.line, rawInt pos.col, .ref c']))) c' (CodeO c' t.qual)) := fun b o e n => by
      rw [upd_ne (ne_of_none e nC), upd_ne (fun z => n ps (Option.some.inj (e.symm.trans (by rw [z]; exact hP))))]
      exact e
    have eL : (ps ++ #[rawInt pos.line, rawInt pos.col, .ref c']).toList = ps.toList ++ [rawInt pos.line, rawInt pos.col, .ref c'] := by simp
    have T1 : Tabs T (upd (upd H Pt (.tbl (ps ++ #[rawInt pos.line, rawInt pos.col, .ref c']))) c' (CodeO c' t.qual)) := fun p hp => by
      by_cases hb : p.1 = Pt
      · rw [hu p hp hb, hb]
        refine ⟨_, by rw [upd_ne nPc, upd_same], by rw [eL]; exact PySem.TriplesOk_snoc _ _ _ _ ht, fun p' cv hcv => ?_⟩
        rw [eL] at hcv
        rcases among_app _ ht hcv with z | z
        · obtain ⟨c0, e1, e2⟩ := ha p' cv z
          exact ⟨c0, e1, hE _ _ e2 codeO_ne⟩
        · exact ⟨c', z, upd_same⟩
      · obtain ⟨ps', a1, a2, a3⟩ := hT p hp
        refine ⟨ps', by rw [upd_ne (ne_of_none a1 nC), upd_ne hb]; exact a1, a2, fun p' cv hcv => ?_⟩
        obtain ⟨c0, e1, e2⟩ := a3 p' cv hcv
        exact ⟨c0, e1, hE _ _ e2 codeO_ne⟩
    have nF := I1.hok.fresh (Nat.le_refl _)
    have I2 := inv_lam (t := t) (cl := cloFrom X.env.cells t.scope.names []) (c' := c') (t' := tk) (pm := (X.mg "__name__").getD .none) (ctv := ctv) I1
    have nfH : H h'.objs.size = none := I.hok.fresh (Nat.le_trans hge (Nat.le_of_lt hlt))
    refine h h'.objs.size c' _ _ I2 (fun b o e n => ?_) (fun b u e => ?_) (fun b qs e => ?_) (fun b e => un (un (un e))) (T1.ext fun b o e => ?_) nfH upd_same ?_
    · exact (upd_ne (ne_of_none e nfH)).trans (hE b o e n)
    · by_cases q1 : b = h'.objs.size
      · subst q1; exact .inr (.inl nfH)
      · rw [upd_ne q1] at e
        by_cases q2 : b = c'
        · subst q2; exact .inr (.inl nC)
        · rw [upd_ne q2] at e
          by_cases q3 : b = Pt
          · subst q3; rw [upd_same] at e; cases e; exact .inr (.inr ⟨_, rfl⟩)
          · rw [upd_ne q3] at e; exact .inl e
    · by_cases q3 : b = Pt
      · subst q3; exact ⟨_, (upd_ne (ne_of_none e nfH)).trans ((upd_ne (ne_of_none e nC)).trans upd_same)⟩
      · exact ⟨qs, (upd_ne (ne_of_none e nfH)).trans ((upd_ne (ne_of_none e nC)).trans ((upd_ne q3).trans e))⟩
    · exact (upd_ne (ne_of_none e nF)).trans e
    · exact (upd_ne (Nat.ne_of_lt hlt)).trans upd_same
  | some cv =>
    obtain ⟨c', e, hco⟩ := ha pos cv hc
    subst e
    refine PySem.W.kla_makeFunctionHit (mg := X.mg) (c := cd) (P := Pt) (ps := ps) (closure_ok hfree) I.ok.glob (I.mod.glob.keeps I.bk) hcode (TB.code.keeps I.bk) hP' ht hc bP fun ctv h' tk hx hsz => ?_
    rw [← hq]
    have I1 : Inv X pins σ H { s with heap := h', toks := tk } := I.kept hx
    have nF : H h'.objs.size = none := I1.hok.fresh (Nat.le_refl _)
    have I2 := inv_lam (t := t) (cl := cloFrom X.env.cells t.scope.names []) (c' := c') (t' := tk) (pm := (X.mg "__name__").getD .none) (ctv := ctv) I1
    refine h h'.objs.size c' _ _ I2 (fun b o e n => (upd_ne (ne_of_none e nF)).trans e) (fun b u e => ?_) (fun b qs e => ⟨qs, (upd_ne (ne_of_none e nF)).trans e⟩) (fun b e => un e) (hT.ext fun b o e => (upd_ne (ne_of_none e nF)).trans e) nF upd_same ((upd_ne (ne_of_none hco nF)).trans hco)
    by_cases q1 : b = h'.objs.size
    · subst q1; exact .inr (.inl nF)
    · rw [upd_ne q1] at e; exact .inl e
def rLam (k : Nat) : Rn D := fun _ M => .ok (.lamI k) M
/-- what a def that makes lambdas knows of itself -/
structure LamHome (X : Cx) (c : Cl) (q : Str) : Prop where
  own : c.own = some X.env.cells
  tab : ∃ cd Pt, TabB X.base X.mg cd Pt ∧ X.env.code = .ref cd ∧ (Pt, q) ∈ c.tabs ∧ ∀ p ∈ c.tabs, p.1 = Pt → p.2 = q
  qual : q = X.env.qual ++ "<lambda>"
theorem s_lam {k : Nat} {params : Arguments} {body : Expr} {scope : Scope} {fr : List Str} {pos : Pos} {q : Str} (Z : LamHome X c q) (hk : c.lams[k]? = some ⟨q, params, body, scope, fr⟩) (L : LamS X.env.scope scope) (hdef : defaultsOf params X.env = ([], []) := by rfl) : PE X (.Lambda params body scope pos) (liftE c W (rLam k)) := by
  obtain ⟨ho, ⟨cd, Pt, TB, hcode, hm, hu⟩, hq⟩ := Z
  refine ⟨fun pins s σ H Q I ⟨ρ, M, θ, P, w, er, o⟩ => ?_⟩
  refine lam_make3 (t := ⟨q, params, body, scope, fr⟩) hq I TB hcode hm hu w.tabs hdef (L.has I.ok) fun f c' H1 s' I1 hE hB hTb hN hT hf h1 h2 => ?_
  -- what lasts: the function, its code
  have hcP : ∀ u, P c' = some u → u = CodeO c' q := fun u e => by
    have e1 := w.sub _ _ e
    have := hE _ _ e1 (fun ps z => w.ptab _ ps (by rw [e, z]))
    rw [h2] at this
    exact (Option.some.inj this).symm
  have nfP : P f = none := by
    cases e : P f with
    | none => rfl
    | some u => have := w.sub _ _ e; rw [hf] at this; cases this
  have nfc : f ≠ c' := fun z => by
    subst z
    rw [h1] at h2
    have h2 := Option.some.inj h2
    unfold LamO CodeO at h2
    obtain ⟨⟨pm, ctv, g⟩, _, _⟩ := I1.hok f _ h1
    have h3 : (fun h : Heap => ∃ pm ctv, h.get? f = some (PySem.W.kla_obj "<lambda>" q params body scope (cloFrom X.env.cells scope.names []) pm f ctv)) = (fun h : Heap => ∃ (oc : Obj) (vs : Array Value) (t : Tok), h.get? f = some oc ∧ oc.data = .fields vs ∧ vs[1]? = some (.str q t)) := HO.ext.inj h2
    have h4 := congrFun h3 s'.heap
    have h5 : ∃ (oc : Obj) (vs : Array Value) (t : Tok), s'.heap.get? f = some oc ∧ oc.data = .fields vs ∧ vs[1]? = some (.str q t) := h4 ▸ ⟨pm, ctv, g⟩
    obtain ⟨oc, vs, t, g1, g2, _⟩ := h5
    rw [g] at g1; cases g1; cases g2
  have nθf : f ∉ θ := fun m => w.there f m hf
  have nθc : c' ∉ θ := fun m => by
    obtain ⟨u, e1, e2⟩ := w.kind m
    have := hE _ _ e1 (fun ps z => e2 (.inr ⟨ps, z⟩))
    rw [h2] at this
    exact e2 (.inl ⟨_, (Option.some.inj this).symm⟩)
  have ext : ∀ b u, P b = some u → upd (upd P c' (CodeO c' q)) f (LamO ⟨q, params, body, scope, fr⟩ (cloFrom X.env.cells scope.names []) c' f) b = some u := fun b u e => by
    by_cases q1 : b = f
    · subst q1; rw [nfP] at e; cases e
    · rw [upd_ne q1]
      by_cases q2 : b = c'
      · subst q2; rw [upd_same, hcP u e]
      · rw [upd_ne q2]; exact e
  refine ⟨.ref f, H1, I1, rfl, o (.ref f) H1 θ _ ⟨fun b u e => ?_, w.len, fun l a mo e1 e2 => ?_, fun l a mo e1 e2 n => ?_, w.inj, fun a m n => w.there a m (hN a n), hT, fun b ps e => ?_⟩
    ⟨fun _ _ e => e, fun b u e _ n => hE b u e n, ext, fun b m => .inl m, fun b u e => ?_, fun b n z => n (hN b z)⟩ ⟨f, _, c', _, rfl, hk, ho, upd_same, by rw [upd_ne (Ne.symm nfc), upd_same]⟩⟩
  · by_cases q1 : b = f
    · subst q1; rw [upd_same] at e; cases e; exact h1
    · rw [upd_ne q1] at e
      by_cases q2 : b = c'
      · subst q2; rw [upd_same] at e; cases e; exact h2
      · rw [upd_ne q2] at e
        exact hE _ _ (w.sub _ _ e) (fun ps z => w.ptab _ ps (by rw [e, z]))
  · obtain ⟨u, z1, z2⟩ := w.kind (mem_of_get e1)
    refine (w.cell l a mo e1 e2).mono (fun _ _ e => e) ext ?_
    rw [z1]; exact hE _ _ z1 (fun ps z => z2 (.inr ⟨ps, z⟩))
  · have m := mem_of_get e1
    rw [upd_ne (fun z => nθf (by rw [← z]; exact m)), upd_ne (fun z => nθc (by rw [← z]; exact m))]
    exact w.off l a mo e1 e2 n
  · by_cases q1 : b = f
    · subst q1; rw [upd_same] at e; cases e
    · rw [upd_ne q1] at e
      by_cases q2 : b = c'
      · subst q2; rw [upd_same] at e; cases e
      · rw [upd_ne q2] at e; exact w.ptab _ _ e
  · by_cases q1 : b = f
    · subst q1; exact .inr (.inr (.inl hf))
    · rw [upd_ne q1] at e
      by_cases q2 : b = c'
      · subst q2
        refine .inr (.inr (.inr fun v hv => ?_))
        by_cases k : ∃ ps, v = .tbl ps
        · exact .inr k
        · have := hE _ _ hv (fun ps z => k ⟨ps, z⟩)
          rw [h2] at this
          exact .inl ⟨_, (Option.some.inj this).symm⟩
      · rw [upd_ne q2] at e; exact .inl e
end
end Q

namespace Q
open PySem PySem.Spec PyProof.Rows L2 LamX NdefX

/-! ### a lambda is called -/
open Classical in
noncomputable def rAsk (lr : Nat → Fn) (a : Rn D) : Rn D := fun ρ M => (a ρ M).bind fun d M1 => match d with
  | .lam k ds => if calmL ds ∧ calmM M1 then lr k ds M1 else .stuck
  | _ => .stuck
section
variable {X : Cx} {c : Cl} {W : WX} {lv : Nat} {lr : Nat → Fn} {a : Rn D} {x : Str} {p pos : Pos}
theorem s_ask (hK : c.K = X.K) (tk : Takes X W) (hL : ∀ k, LOk X.prog X.w c X.mg X.base lv k (lr k)) (hr : Room lv X.A) (hx : PE X (.Name x p) (liftE c W a)) : PE X (.Call (.Name x p) [] [] pos) (liftE c W (rAsk lr a)) := by
  refine ⟨fun pins s σ H Q I ⟨ρ, M, θ, P, w, er, o⟩ => ?_⟩
  refine wpAny_Call_Name_kw (thn (hx.run pins s σ H (fun v H1 => ∃ f c' cl t k ds ws M1 θ1 P1, v = .ref f ∧ c.lams[k]? = some t ∧ P1 f = some (LamO t cl c' f) ∧ P1 c' = some (CodeO c' t.qual) ∧ CellsP P1 cl t.fr ws ∧ Wo c θ1 P1 H1 M1 ∧ VRL c θ1 P1 ds ws ∧ calmL ds ∧ calmM M1 ∧
      OutE c θ1 P1 H1 Q (fun cv dd H' => W cv dd σ H') (lr k ds M1)) I ⟨ρ, M, θ, P, w, er, Out.bind (R := RV c) o fun d M1 v H1 θ1 P1 w1 s1 r1 o1 => ?_⟩) fun u s1 ⟨v, H1, I1, r, f, c', cl, t, k, ds, ws, M1, θ1, P1, ev, ht, hf, hc, C, w1, rl, md, mm, o1⟩ => ?_)
  · cases d with
    | lam k ds =>
      obtain ⟨f, t, c', cl, ws, rfl, hk, hf, hc, C, rl⟩ := r1
      by_cases q : calmL ds ∧ calmM M1
      · simp only [if_pos q] at o1
        exact ⟨f, c', cl, t, k, ds, ws, M1, θ1, P1, rfl, hk, hf, hc, C, w1, rl, q.1, q.2, o1⟩
      · simp only [if_neg q] at o1
        exact o1.elim
    | _ => exact o1.elim
  · subst ev
    obtain rfl : u = Value.ref f := r
    obtain ⟨⟨pm, ctv, ho⟩, _, _⟩ := I1.hok f _ (w1.sub _ _ hf)
    refine PySem.W.callWith_F0 ⟨_, _, _, _, ho⟩ ?_
    have e0 := I1.env0
    rw [← hK] at e0
    refine wpAny_call (codeAny_mono ((hL k).go t ht f c' cl X.A X.stack s1 H1 ds ws θ1 P1 M1 Q (fun cv dd H' => W cv dd σ H') hr e0 hf hc C w1 rl md mm o1) fun r s' hq => ?_)
    cases r with
    | error e => exact tk e s' (XE.of_call I1 (fun cls d H' h => h) hq)
    | ok fl =>
      cases fl with
      | ret u => exact I1.after hq
      | next => exact False.elim hq
      | brk => exact False.elim hq
      | cont => exact False.elim hq
end
end Q

namespace Q
open PySem PySem.Spec PyProof.Rows L2 LamX NdefX

/-! ### a def's own lambdas are handed to a def -/
abbrev Cl.mine (c0 : Cl) (cells : List (Str × Addr)) : Cl := { c0 with own := some cells }
/-- lambdas by their numbers, the slots of what they capture -/
abbrev Js := List (Nat × List Nat)
def capL (ρ : Ev) : List Nat → Option (List D)
  | [] => some []
  | j :: js => match ρ[j]?, capL ρ js with
    | some (some d), some ds => some (d :: ds)
    | _, _ => none
def capD (js : Js) (ρ : Ev) (k : Nat) : Option (List D) := match js.lookup k with
  | some is => capL ρ is
  | none => none
def closeL (js : Js) (ρ : Ev) : List D → Option (List (Nat × List D))
  | [] => some []
  | .lamI k :: r => match capD js ρ k, closeL js ρ r with
    | some vs, some r => some ((k, vs) :: r)
    | _, _ => none
  | _ => none
/-- one lambda, or a list of lambdas -/
def closeD (js : Js) (ρ : Ev) : D → Option (Bool × List (Nat × List D))
  | .lamI k => (closeL js ρ [.lamI k]).map fun l => (false, l)
  | .lst ds => (closeL js ρ ds).map fun l => (true, l)
  | _ => none
def closed (l : List (Nat × List D)) : List D := l.map fun p => .lam p.1 p.2
def closedD : Bool × List (Nat × List D) → D
  | (false, [(k, vs)]) => .lam k vs
  | (_, l) => .lst (closed l)
open Classical in
noncomputable def coolRes (r : Res D) : Res D := match r with
  | .ok d M => if calmD d ∧ calmM M then .ok d M else .stuck
  | _ => .stuck
open Classical in
noncomputable def rCallL (js : Js) (run : Fn) (a : Rn (List D)) : Rn D := fun ρ M => (a ρ M).bind fun ds M1 => match ds with
  | [d] => match closeD js ρ d with
    | some l => if calmM M1 ∧ ∀ p ∈ l.2, calmL p.2 then coolRes (run [closedD l] M1) else .stuck
    | none => .stuck
  | _ => .stuck
/-- how the lambdas' captured names lie in the running def -/
structure CapHome (X : Cx) (c : Cl) (js : Js) : Prop where
  free : ∀ k is t, js.lookup k = some is → c.lams[k]? = some t → ∀ y ∈ t.scope.names, y.2 = .free → X.env.scope.names.lookup y.1 = some .cell ∨ X.env.scope.names.lookup y.1 = some .free
  fr : ∀ k is t, js.lookup k = some is → c.lams[k]? = some t → ∀ y ∈ t.fr, (y, NameKind.free) ∈ t.scope.names
  at_ : ∀ k is t, js.lookup k = some is → c.lams[k]? = some t → is.map (fun j => X.N[j]?) = t.fr.map some
theorem CapHome.nil {X : Cx} {c : Cl} : CapHome X c [] := ⟨fun _ _ _ h => (nomatch h), fun _ _ _ h => (nomatch h), fun _ _ _ h => (nomatch h)⟩
theorem CapHome.cons {X : Cx} {c : Cl} {js : Js} {k : Nat} {is : List Nat} {t : LamTx} (ht : c.lams[k]? = some t) (hb : ndefB X.env.scope t.scope t.fr = true) (hat : is.map (fun j => X.N[j]?) = t.fr.map some) (h : CapHome X c js) : CapHome X c ((k, is) :: js) := by
  refine ⟨fun k' is' t' e e' => ?_, fun k' is' t' e e' => ?_, fun k' is' t' e e' => ?_⟩
  all_goals
    simp only [List.lookup] at e
    split at e
    · rename_i q
      have q : k' = k := by simpa using q
      subst q; cases e
      rw [ht] at e'; cases e'
      first | exact ndef_free hb | exact ndef_fr hb | exact hat
    · first | exact h.free k' is' t' e e' | exact h.fr k' is' t' e e' | exact h.at_ k' is' t' e e'
section
variable {c c0 : Cl} {θ : List Addr} {P H : Hp} {M : MS} {S : Addr → Prop} {Hc : Hp}
theorem cap_rel {ρ : Ev} {σ : L2.St} (er : ER c θ P ρ σ) : ∀ {is : List Nat} {ds : List D}, capL ρ is = some ds → ∃ ws : List V, is.map (fun j => σ[j]?) = ws.map (fun v => some (some v)) ∧ VRL c θ P ds ws
  | [], _, h => by cases h; exact ⟨[], rfl, rfl⟩
  | j :: is, ds, h => by
    unfold capL at h
    split at h
    · rename_i d ds' e1 e2
      cases h
      obtain ⟨v, g1, g2⟩ := er.at_ j d e1
      obtain ⟨ws, g3, g4⟩ := cap_rel er e2
      exact ⟨v :: ws, by simp [g1, g3], v, ws, rfl, g2, g4⟩
    · cases h
theorem Wo.lay (w : Wo c θ P H M) (hn : ∀ b, S b → H b = none) (hc : ∀ b, S b → ∃ oc, Hc b = some (exq b oc)) : Wo c θ (addS S Hc P) (addS S Hc H) M where
  sub := fun b o e => by
    by_cases q : S b
    · rw [addS_in q] at e ⊢; exact e
    · rw [addS_out q] at e ⊢; exact w.sub b o e
  len := w.len
  cell := fun l a mo e1 e2 => by
    have na : ¬ S a := fun q => w.there a (mem_of_get e1) (hn a q)
    exact (w.cell l a mo e1 e2).mono (fun _ _ e => e) (pAdd w hn) (addS_out na)
  off := fun l a mo e1 e2 n => by
    have na : ¬ S a := fun q => w.there a (mem_of_get e1) (hn a q)
    rw [addS_out na]
    exact w.off l a mo e1 e2 n
  inj := w.inj
  there := fun a m => by
    have na : ¬ S a := fun q => w.there a m (hn a q)
    rw [addS_out na]
    exact w.there a m
  tabs := w.tabs.ext fun b o e => by
    have q : ¬ S b := fun q => by rw [hn b q] at e; cases e
    rw [addS_out q]; exact e
  ptab := fun b ps e => by
    by_cases q : S b
    · rw [addS_in q] at e
      obtain ⟨oc, z⟩ := hc b q
      rw [z] at e
      unfold exq at e; cases e
    · rw [addS_out q] at e; exact w.ptab b ps e
end
section
variable {X : Cx} {c0 : Cl} {W : WX} {k : Nat} {d : DefQ} {ps : List Str} {run : Fn} {x : Str} {p pos : Pos} {e : Expr} {ra : Rn (List D)} {js : Js} {cells : List (Str × Addr)}
theorem cxE0 {P : Program} {w : World} {l : List Env} {H : Hp} {s : Shared} {e : Value} {s' : Shared} (h : L2.CX P w l H s E0 e s') : False := by
  obtain ⟨_, _, _, _, _, _, _, _, _, _, _, _, h⟩ := h
  exact h
theorem s_callL (hX : cells = X.env.cells) (hown : c0.own = none) (hK : c0.K = X.K) (F : Dq X.prog X.w c0 X.mg X.base d k ps run) (hps : ps.length = 1) (hr : Room k X.A) (hm : X.mg x = some (.ref (adr c0.K d.at_))) (hd : d.dfl = []) (hfn : ∀ y, X.fn y = true) (G : CapHome X c0 js)
    (hb : ∀ (clo : List (Str × Addr)) (kV doc pm : Value) (an : Option Addr) (cdv ct : Value) (us : List Value), us.length = ps.length → bindArgs (PySem.W.fnX d.name d.qual d.params d.body d.scope clo .none kV doc pm an cdv ct) ⟨us, []⟩ = pure (ps.zip us)) (ha : PA X [e] (liftA (c0.mine cells) W ra))
    (hg : Gl X x := by rfl) (hdb : (x == ("__debug__" : Str)) = false := by decide) (he : starEach [e] X.env = (false, eval e X.env) :: starEach [] X.env := by rfl) (hpl : (backTo pos (starEach [] X.env)).any (·.1) = false := by rfl) :
    PE X (.Call (.Name x p) [e] [] pos) (liftE (c0.mine cells) W (rCallL js run ra)) := by
  obtain ⟨fd, F1, F2⟩ := F.ex
  rw [hK] at F1 F2 hm
  subst hX
  refine ⟨fun pins s σ H Q I ⟨ρ, M, θ, P, w, er, o⟩ => ?_⟩
  refine wpAny_Call_Name_kw (ld_glob I hg hm ?_ hdb)
  refine PySem.W.callWith_K (h₀ := X.base) I.ok.mod.kin F2.kp (thn (ha.run pos pins s σ H (fun vs H1 => ∃ M1 θ1 P1 d0 v l r M2, vs = [v] ∧ Wo (c0.mine X.env.cells) θ1 P1 H1 M1 ∧ VR (c0.mine X.env.cells) θ1 P1 d0 v ∧ ER (c0.mine X.env.cells) θ1 P1 ρ σ ∧ closeD js ρ d0 = some l ∧ calmM M1 ∧ (∀ p ∈ l.2, calmL p.2) ∧ run [closedD l] M1 = .ok r M2 ∧ calmD r ∧ calmM M2 ∧
      OutE (c0.mine X.env.cells) θ1 P1 H1 Q (fun cv dd H' => W cv dd σ H') (.ok r M2)) I ⟨ρ, M, θ, P, w, er, Out.bind (R := RL (c0.mine X.env.cells)) o fun ds M1 vs H1 θ1 P1 w1 s1 r1 o1 => ?_⟩) fun us s1 ⟨vs, H1, I1, r, M1, θ1, P1, d0, v, l, rr, M2, ev, w1, rv, er1, hl, mm, ml, hrun, mr, mM, o1⟩ => ⟨I1.kIn, ?_⟩) he hpl
  · split at o1
    · rename_i d0
      obtain ⟨v, rfl, rv⟩ := r1.inv1
      split at o1
      · rename_i l hl
        by_cases q : calmM M1 ∧ ∀ p ∈ l.2, calmL p.2
        · rw [if_pos q] at o1
          cases q2 : run [closedD l] M1 with
          | stuck => rw [q2] at o1; exact o1.elim
          | err n fs M2 => rw [q2] at o1; exact o1.elim
          | ok r M2 =>
            rw [q2] at o1
            by_cases q3 : calmD r ∧ calmM M2
            · have e3 : coolRes (.ok r M2) = .ok r M2 := if_pos q3
              rw [e3] at o1
              exact ⟨M1, θ1, P1, d0, v, l, r, M2, rfl, w1, rv, er.step s1, hl, q.1, q.2, q2, q3.1, q3.2, o1⟩
            · have e3 : coolRes (.ok r M2) = .stuck := if_neg q3
              rw [e3] at o1
              exact o1.elim
        · rw [if_neg q] at o1
          exact o1.elim
      · exact o1.elim
    · exact o1.elim
  · subst ev
    -- the cells, as they stand
    let S := capS X.env.cells
    let Hc : Hp := fun b => (s1.heap.get? b).map (exq b)
    have hn : ∀ b, S b → H1 b = none := fun b ⟨y, e⟩ => I1.freeC y b e
    have hcell : ∀ b, S b → ∃ oc u, s1.heap.get? b = some oc ∧ oc.data = .cell u ∧ Hc b = some (exq b oc) := fun b ⟨y, e⟩ => by
      obtain ⟨u, oc, h1, h2⟩ := I1.cell y b e
      exact ⟨oc, u, h1, h2, by show (s1.heap.get? b).map (exq b) = _; rw [h1]; rfl⟩
    have hcx : ∀ b, S b → ∃ oc, Hc b = some (exq b oc) := fun b q => let ⟨oc, _, _, _, z⟩ := hcell b q; ⟨oc, z⟩
    have hcs : ∀ b, S b → ∃ oc, Hc b = some (exq b oc) ∧ s1.heap.get? b = some oc := fun b q => let ⟨oc, _, z1, _, z⟩ := hcell b q; ⟨oc, z, z1⟩
    have w2 : Wo c0 θ1 (addS S Hc P1) (addS S Hc H1) M1 := (Wo.down (c := c0.mine X.env.cells) (c' := c0) ⟨rfl, rfl, fun _ _ e _ => e⟩ rfl w1 mm).lay hn hcx
    have pext : ∀ b o, P1 b = some o → addS S Hc P1 b = some o := pAdd w1 hn
    have big : ∀ b, S b → X.s_0.heap.objs.size ≤ b := fun b ⟨y, e⟩ => I1.ok.cab y b (hfn y) e
    have e0 : Env0 X.prog X.w X.K X.mg X.base X.A X.stack s1 (addS S Hc H1) := by
      have e := I1.env0
      refine ⟨e.frames, e.mod, fun b o h => ⟨(e.bs b o h).1, ?_⟩, e.bsz, e.funs, fun b m => ?_, hok_add I1.hok hcs hn, e.bare⟩
      · have nb : ¬ S b := fun q => absurd (Nat.lt_of_lt_of_le (Heap.lt_size h) (Nat.le_trans I1.ok.bsz (big b q))) (Nat.lt_irrefl _)
        rw [addS_out nb]; exact (e.bs b o h).2
      · have nb : ¬ S b := fun q => by
          rcases List.mem_cons.mp (I1.stkSub b m) with z | z
          · obtain ⟨y, hy⟩ := q
            exact I1.cne y b hy z
          · obtain ⟨_, ob, hob, _⟩ := I1.ok.funs.mem z
            exact absurd (Nat.lt_of_lt_of_le (Heap.lt_size hob) (big b q)) (Nat.lt_irrefl _)
        rw [addS_out nb]; exact e.frf b m
    have nθ : ∀ b, S b → b ∉ θ1 := fun b q m => w1.there b m (hn b q)
    -- one lambda
    have one : ∀ (k : Nat) (v : V) (vs : List D), VR (c0.mine X.env.cells) θ1 P1 (.lamI k) v → capD js ρ k = some vs → calmL vs → VR c0 θ1 (addS S Hc P1) (.lam k vs) v := by
      rintro k v vs ⟨f, t, c', cl, ev, ht, ho, hf, hc⟩ hcap cv
      cases ho
      unfold capD at hcap
      split at hcap
      · rename_i is hjs
        obtain ⟨ws, g1, g2⟩ := cap_rel er1 hcap
        have hfree : ∀ y ∈ t.scope.names, y.2 = .free → ∃ c, X.env.cells.lookup y.1 = some c := fun y hy hk => I1.ok.has y.1 (G.free k is t hjs ht y hy hk)
        have cm : ∀ {y cc}, (cloFrom X.env.cells t.scope.names []).lookup y = some cc → X.env.cells.lookup y = some cc := fun {y cc} e => clo_cm hfree e
        have hat := G.at_ k is t hjs ht
        have hlen : is.length = t.fr.length := by
          have q := congrArg List.length hat
          simpa only [List.length_map] using q
        have hlen2 : ws.length = is.length := by
          have q := congrArg List.length g1
          simp only [List.length_map] at q
          exact q.symm
        refine ⟨f, t, c', _, ws, ev, ht, pext _ _ hf, pext _ _ hc, ⟨by omega, fun y cc e => ?_, fun x y cc e1 e2 => I1.ok.inj x y cc (cm e1) (cm e2), fun i y hi => ?_⟩, VRL.calm (c := c0.mine X.env.cells) (c' := c0) ⟨rfl, rfl, fun b o e _ => pext b o e⟩ g2 cv⟩
        · obtain ⟨oc, u, _, z2, z3⟩ := hcell cc ⟨y, cm e⟩
          exact ⟨oc, u, by rw [addS_in (⟨y, cm e⟩ : S cc)]; exact z3, z2⟩
        · have hfr := G.fr k is t hjs ht y (List.mem_of_getElem? hi)
          obtain ⟨cc, hcc⟩ := hfree _ hfr rfl
          have hcl := clo_has hfree hfr hcc
          have hi' : i < is.length := by rw [hlen]; exact (List.getElem?_eq_some_iff.mp hi).1
          have hN : X.N[is[i]]? = some y := by
            have q := congrArg (fun l : List (Option Str) => l[i]?) hat
            simp only [List.getElem?_map, List.getElem?_eq_getElem hi', hi, Option.map_some] at q
            exact Option.some.inj q
          have hwi : i < ws.length := by omega
          have hσ : σ[is[i]]? = some (some ws[i]) := by
            have q := congrArg (fun l : List (Option (Option V)) => l[i]?) g1
            simp only [List.getElem?_map, List.getElem?_eq_getElem hi', List.getElem?_eq_getElem hwi, Option.map_some] at q
            exact Option.some.inj q
          obtain ⟨m, _, hl⟩ := I1.loc
          have kd := G.free k is t hjs ht _ hfr rfl
          obtain ⟨u, ru, lk⟩ := hl is[i] y ws[i] hN hσ (kd.elim (fun z => .inr (.inl z)) fun z => .inr (.inr z))
          rcases lk with ⟨z, _⟩ | ⟨_, c2, z1, z2⟩
          · have z : X.env.scope.names.lookup y = some .local := z
            rcases kd with kd | kd <;> rw [show X.env.scope.names.lookup y = _ from kd] at z <;> cases z
          · have hcc : X.env.cells.lookup y = some cc := hcc
            rw [hcc] at z1; cases z1
            obtain ⟨oc, h1, h2⟩ := z2
            refine ⟨cc, oc, u, ws[i], hcl, ?_, h2, List.getElem?_eq_getElem hwi, ru⟩
            rw [addS_in (⟨y, hcc⟩ : S cc)]
            show (s1.heap.get? cc).map (exq cc) = _
            rw [h1]; rfl
      · cases hcap
    have many : ∀ (ds : List D) (vs : List V) (l : List (Nat × List D)), VRL (c0.mine X.env.cells) θ1 P1 ds vs → closeL js ρ ds = some l → (∀ p ∈ l, calmL p.2) → VRL c0 θ1 (addS S Hc P1) (closed l) vs := by
      intro ds
      induction ds with
      | nil => intro vs l r h _; cases h; exact r
      | cons d ds ih =>
        intro vs l r h m
        obtain ⟨v, vr, rfl, ra, rb⟩ := r
        cases d with
        | lamI k =>
          simp only [closeL] at h
          split at h
          · rename_i us l' e1 e2
            cases h
            exact ⟨v, vr, rfl, one k v us ra e1 (m _ (.head _)), ih vr l' rb e2 fun p hp => m p (.tail _ hp)⟩
          · cases h
        | _ => cases h
    have rd : VR c0 θ1 (addS S Hc P1) (closedD l) v := by
      cases d0 with
      | lamI k =>
        simp only [closeD, Option.map_eq_some_iff] at hl
        obtain ⟨l', h1, rfl⟩ := hl
        simp only [closeL] at h1
        split at h1
        · rename_i us l'' e1 e2
          cases e2; cases h1
          exact one k v us rv e1 (ml _ (.head _))
        · cases h1
      | lst ds =>
        simp only [closeD, Option.map_eq_some_iff] at hl
        obtain ⟨l', h1, rfl⟩ := hl
        obtain ⟨a, vs, e, h2, h3⟩ := rv
        have : closedD (true, l') = .lst (closed l') := by
          unfold closedD; split
          · rename_i h; cases h
          · rename_i h; cases h; rfl
        rw [this]
        exact ⟨a, vs, e, pext _ _ h2, many ds vs l' h3 h1 ml⟩
      | _ => cases hl
    have spq : spF c0 1 run [v] (addS S Hc H1) (fun v H' => (∀ b, S b → H' b = Hc b) ∧ Q v (delS S H')) E0 := by
      refine ⟨[closedD l], M1, θ1, _, w2, ⟨v, [], rfl, rd, rfl⟩, rfl, ?_⟩
      rw [hrun]
      intro v2 H' θ' P' w' s' r'
      have hk : ∀ b, S b → H' b = Hc b := fun b q => by
        obtain ⟨oc, z⟩ := hcx b q
        rw [z]
        exact s'.keep b _ (by rw [addS_in q]; exact z) (nθ b q) (fun ps z => by unfold exq at z; cases z)
      have kc : Cells c0.tabs S H' := by
        refine ⟨fun b q => by rw [hk b q]; obtain ⟨oc, z⟩ := hcx b q; exact ⟨_, z⟩, fun b q' q z => ?_⟩
        obtain ⟨oc, u, z1, z2, z3⟩ := hcell b q
        rw [hk b q, z3] at z
        have z := HO.ext.inj (Option.some.inj z)
        have z := congrFun z s1.heap
        have z : ∃ (oc : Obj) (vs : Array Value) (t : Tok), s1.heap.get? b = some oc ∧ oc.data = .fields vs ∧ vs[1]? = some (.str q' t) := z ▸ z1
        obtain ⟨oc', vs', t', g1, g2, _⟩ := z
        rw [z1] at g1; cases g1
        rw [z2] at g2; cases g2
      refine ⟨hk, o1 v2 _ θ' (delS S P') (Wo.up (c := c0) (c' := c0.mine X.env.cells) ⟨rfl, rfl, rfl, rfl, fun _ e => e, fun x e => by rw [hown] at e; cases e⟩ (w'.del kc mM)) ⟨s'.pre, fun b u e n nt => ?_, fun b u e => ?_, fun b m => ?_, fun b u e => ?_, fun b n => ?_⟩ (VR.calm (c := c0) (c' := c0.mine X.env.cells) ⟨rfl, rfl, fun b o e n => by rw [delS_out (kc.out (w'.sub b o e) n)]; exact e⟩ r' mr)⟩
      · have q : ¬ S b := fun q => by rw [hn b q] at e; cases e
        rw [delS_out q]; exact s'.keep b u (by rw [addS_out q]; exact e) n nt
      · have q : ¬ S b := fun q => by have := w1.sub b u e; rw [hn b q] at this; cases this
        rw [delS_out q]; exact s'.pext b u (by rw [addS_out q]; exact e)
      · rcases s'.new b m with z | z
        · exact .inl z
        · have q : ¬ S b := fun q => by obtain ⟨oc, y⟩ := hcx b q; rw [addS_in q, y] at z; cases z
          rw [addS_out q] at z; exact .inr z
      · obtain ⟨q, e⟩ := delS_some e
        have := s'.pnew b u e
        rw [addS_out q, addS_out q] at this
        exact this
      · have q : ¬ S b := fun q => n (hn b q)
        rw [delS_out q]; exact s'.there b (by rw [addS_out q]; exact n)
    have hl1 : us.length = ps.length := by rw [← r.length, hps]; rfl
    have b := (F2.bindsN hd hb) s1 us I1.kIn (by rw [List.append_nil]; exact hl1)
    rw [List.append_nil] at b
    rw [hps] at F1
    refine wpAny_call (codeAny_mono (F1.run X.A X.stack s1 (addS S Hc H1) ⟨us, []⟩ us [v] _ E0 hr e0 b r spq) fun rr s' hq => ?_)
    cases rr with
    | error e => exact (cxE0 hq).elim
    | ok fl =>
      cases fl with
      | ret u =>
        obtain ⟨v', H', os, bare, un, hok, rr, hk, q⟩ := hq
        refine I1.after ⟨v', delS S H', os, bare, ⟨fun b o e n nf nx => ?_, fun b o e n mf nx => ?_, fun b o e n nx => ?_, un.there, fun b xs e => ?_, fun b o xs e => ?_, fun b ps e => ?_⟩, hok_del hok (fun b q => by rw [hk b q]; obtain ⟨oc, z⟩ := hcx b q; exact ⟨_, z⟩), rr, q⟩
        · by_cases q : S b
          · obtain ⟨oc, u, z1, z2, z3⟩ := hcell b q
            rw [z1] at e; cases e
            exact hok_ext hok (by rw [hk b q]; exact z3)
          · exact un.keep b o e (by rw [addS_out q]; exact n) nf nx
        · exact un.slot b o e (e0.frf b mf) mf nx
        · by_cases q : S b
          · exact delS_in q
          · rw [delS_out q]; exact un.free b o e (by rw [addS_out q]; exact n) nx
        · have q : ¬ S b := fun q => by rw [hn b q] at e; cases e
          rw [delS_out q]; exact un.tups b xs (by rw [addS_out q]; exact e)
        · have q : ¬ S b := fun q => by rw [hn b q] at e; cases e
          rw [delS_out q]; exact un.frzs b o xs (by rw [addS_out q]; exact e)
        · have q : ¬ S b := fun q => by rw [hn b q] at e; cases e
          rw [delS_out q]; exact un.tbls b ps (by rw [addS_out q]; exact e)
      | next => exact False.elim hq
      | brk => exact False.elim hq
      | cont => exact False.elim hq
end
end Q

namespace Q
open PySem PySem.Spec PyProof.Rows L2 LamX NdefX

/-! ### a def that makes lambdas -/
def codeVal (K : PySem.W.Frag) (p : Ad) : Option Value := match K.lookup (adr K p) with
  | some ⟨_, _, .func fd, _⟩ => some fd.code
  | _ => none
structure TabQ (c : Cl) (mg : Str → Option Value) (base : Heap) (d : DefQ) (q : Str) : Prop where
  go : ∀ cdv, codeVal c.K d.at_ = some cdv → ∃ cd Pt, cdv = .ref cd ∧ TabB base mg cd Pt ∧ (Pt, q) ∈ c.tabs ∧ ∀ p ∈ c.tabs, p.1 = Pt → p.2 = q
section
variable {c : Cl} {cells : List (Str × Addr)} {θ : List Addr} {P H : Hp} {M : MS}
theorem mine_le (h : c.own = none) : c.Le (c.mine cells) := ⟨rfl, rfl, rfl, rfl, (fun _ e => e), fun x e => by rw [h] at e; cases e⟩
theorem mine_calm {P' : Hp} (h : ∀ b o, P b = some o → P' b = some o) : Calms (c.mine cells) c P P' := ⟨rfl, rfl, fun b o e _ => h b o e⟩
theorem OutE.mine (hc : c.own = none) {Q : V → Hp → Prop} {E E' : Value → Option Addr → Hp → Prop} {r : Res D} (o : OutE c θ P H Q E (coolRes r)) : OutE (c.mine cells) θ P H Q E' r := by
  cases r with
  | stuck => exact o
  | err n fs M' => exact o.elim
  | ok d M' =>
    by_cases q : calmD d ∧ calmM M'
    · have e : coolRes (.ok d M') = .ok d M' := if_pos q
      rw [e] at o
      exact fun v H' θ' P' w s r => o v H' θ' P' (Wo.down (c := c.mine cells) (c' := c) ⟨rfl, rfl, fun _ _ e _ => e⟩ rfl w q.2) s (VR.calm (c := c.mine cells) (c' := c) ⟨rfl, rfl, fun _ _ e _ => e⟩ r q.1)
    · have e : coolRes (.ok d M') = .stuck := if_neg q
      rw [e] at o
      exact o.elim
/-- the def with k slots, which makes lambdas -/
noncomputable def fnO (k : Nat) (body : Sn) : Fn := fun ds M => trim M (coolRes (endF (body (ds.map some ++ List.replicate (k - ds.length) none) M)))
open Classical in
/-- a def called by one that makes lambdas -/
noncomputable def mineF (run : Fn) : Fn := fun ds M => if calmL ds ∧ calmM M then run ds M else .stuck
theorem mineF_eq {run : Fn} {ds : List D} (h : calmL ds) (h2 : calmM M) : mineF run ds M = run ds M := if_pos ⟨h, h2⟩
end
section
variable {P : Program} {w : World} {c : Cl} {mg : Str → Option Value} {base : Heap} {d : DefQ} {j k n : Nat} {ps N : List Str} {run : Fn} {fa : List Fq} {fn : List DefQ} {cs : List Str} {body : Sn} {q : Str} {cells : List (Str × Addr)}
theorem Dq.mine (hc : c.own = none) (F : Dq P w c mg base d k ps run) : Dq P w (c.mine cells) mg base d k ps (mineF run) := by
  obtain ⟨fd, h1, h2⟩ := F.ex
  refine ⟨fd, h1.imp fun vs H Q E ⟨ds, M, θ, Pp, w0, rl, hl, o⟩ => ?_, h2⟩
  by_cases q : calmL ds ∧ calmM M
  · have e : mineF run ds M = run ds M := if_pos q
    rw [e] at o
    refine ⟨ds, M, θ, Pp, Wo.down (c := c.mine cells) (c' := c) ⟨rfl, rfl, fun _ _ e _ => e⟩ rfl w0 q.2, VRL.calm (c := c.mine cells) (c' := c) ⟨rfl, rfl, fun _ _ e _ => e⟩ rl q.1, hl, ?_⟩
    cases r : run ds M with
    | stuck => rw [r] at o; exact o
    | ok d' M' => rw [r] at o; exact fun v H' θ' P' w' s x => o v H' θ' P' (w'.up (mine_le hc)) s (VR.up (mine_le hc) x)
    | err n fs M' =>
      rw [r] at o
      rintro cv dd H' θ' P' w' s ⟨C, d, fv, x1, x2, x3, x4, x5⟩
      exact o cv dd H' θ' P' (w'.up (mine_le hc)) s ⟨C, d, fv, x1, x2, x3, x4, VRF.up (mine_le hc) x5⟩
  · have e : mineF run ds M = .stuck := if_neg q
    rw [e] at o
    exact o.elim
theorem IsOk.mine {tb : IsTab} (T : IsOk c tb) : IsOk (c.mine cells) tb := ⟨T.one, T.ins⟩
theorem OrdOk.mine {o : Str → Ty → Option Bool} (T : OrdOk c o) : OrdOk (c.mine cells) o := ⟨T.left, T.right, T.ins⟩
theorem Kq.mine (S : Kq fa fn cs c mg) : Kq fa fn cs (c.mine cells) mg := ⟨S.fact, S.defd, S.home, S.at_⟩
theorem dqO_ok (S : Kq fa fn cs c mg) (i : Nat) (hi : fn[i]? = some d) (hc : d.clo = []) (ho : c.own = none) (SC : FnScope N ps d.scope) (T : TabQ c mg base d q) (hq : ∀ L f cd, q = (envOfC d.qual d.scope L f cd).qual ++ "<lambda>")
    (hb : ∀ (f : Addr) (cdv : Value) (A : Around) (outer : List Env) (s : Shared) (H : Hp) (E : XK), Room k (A.deeper (envOfC d.qual d.scope s.heap.objs.size f cdv)) →
      LamHome (cxOf (L2.CX P w) P w c.K mg base N d.qual d.scope f cdv A outer s H E) (c.mine (cxOf (L2.CX P w) P w c.K mg base N d.qual d.scope f cdv A outer s H E).env.cells) q →
      PSs (cxOf (L2.CX P w) P w c.K mg base N d.qual d.scope f cdv A outer s H E) d.body (liftS (c.mine (cxOf (L2.CX P w) P w c.K mg base N d.qual d.scope f cdv A outer s H E).env.cells) (fun cls d _ H => E cls d H) body)) :
    Dq P w c mg base d (k + 1) ps (fnO N.length body) := by
  obtain ⟨fd, F⟩ := S.defd i d hi
  have FD := F.funD hc
  obtain ⟨oc, od, dV, kV, doc, pm, an, cdv, ct, osl, rfl, lk, hcd, _, _⟩ := FD.ex
  refine ⟨_, fn_of lk hcd SC (fun vs H Q E h => ?_) (fun A outer s H vs Q E hr h => ⟨_, hb _ cdv A outer s H E hr ⟨rfl, ?_, hq _ _ _⟩, ?_⟩), F⟩
  · obtain ⟨ds, M, θ, P, w, r, e, _⟩ := h
    rw [r.length, e]
  · have hv : codeVal c.K d.at_ = some cdv := by unfold codeVal; rw [lk]
    obtain ⟨cd, Pt, e1, e2, e3, e4⟩ := T.go cdv hv
    exact ⟨cd, Pt, e2, e1, e3, e4⟩
  · obtain ⟨ds, M, θ, P, w, r, e, o⟩ := h
    exact body_run (body := d.body) (w.up (mine_le ho)) (VRL.up (mine_le ho) r) (OutE.mine ho (Out.trim w o))
end
end Q

namespace Q
open PySem PySem.Spec PyProof.Rows L2 LamX NdefX

/-! ### the head of a law with lambdas -/
def isTab0 : Obj → Bool
  | ⟨.none, none, .fields vs, sl⟩ => vs.size == 0 && sl.size == 0
  | _ => false
theorem isTab0_ok {o : Obj} (h : isTab0 o = true) : o = { cls := .none, data := .fields #[] } := by
  unfold isTab0 at h
  split at h
  · rename_i vs sl
    obtain ⟨h1, h2⟩ := He.ba h
    have e1 : vs = #[] := Array.size_eq_zero_iff.mp (by simpa using h1)
    have e2 : sl = #[] := Array.size_eq_zero_iff.mp (by simpa using h2)
    subst e1; subst e2; rfl
  · cases h
/-- what stands at addresses, but for empty tables -/
def frL (g : Addr → Option Obj) (as : List Addr) : PySem.W.Frag := (He.frG g as).filter fun p => !isTab0 p.2
theorem frG_mem {g : Addr → Option Obj} {as : List Addr} {p : Addr × Obj} (h : p ∈ He.frG g as) : g p.1 = some p.2 := by
  unfold He.frG at h
  obtain ⟨a, _, e⟩ := List.mem_filterMap.mp h
  obtain ⟨o, e1, e2⟩ := Option.map_eq_some_iff.mp e
  subst e2; exact e1
theorem frL_mem {g : Addr → Option Obj} {as : List Addr} {a : Addr} {o : Obj} (h : (frL g as).lookup a = some o) : g a = some o ∧ isTab0 o = false := by
  have m := lookup_mem h
  unfold frL at m
  obtain ⟨m1, m2⟩ := List.mem_filter.mp m
  exact ⟨frG_mem m1, by simpa using m2⟩
theorem frL_in {as : List Addr} {h : Heap} : (frL h.get? as).In h := fun _ _ e => (frL_mem e).1
def cdAt (K : PySem.W.Frag) (p : Ad) : Addr := match codeVal K p with
  | some (.ref c) => c
  | _ => 0
def tabAt (K : PySem.W.Frag) (p : Ad) : Addr := match K.lookup (cdAt K p) with
  | some ⟨_, _, .fields vs, _⟩ => match (vs[11]? : Option Value) with
    | some (Value.ref P) => P
    | _ => 0
  | _ => 0
def fieldsAt (vs : Array Value) : Bool := (match vs.getD 18 .none with | .str _ _ => true | _ => false) && ((match vs.getD 7 .none with | .int _ _ => true | _ => false) && ((match vs.getD 9 .none with | .bool _ => true | _ => false) && (match vs.getD 10 .none with | .int _ _ => true | _ => false)))
/-- p's code object and its table are as the making of a lambda wants them -/
def tabB (K : PySem.W.Frag) (p : Ad) : Bool := (match codeVal K p with | some (.ref _) => true | _ => false) && (match K.lookup (cdAt K p) with
  | some ⟨.type t, _, .fields vs, _⟩ => decide (t = "code") && ((match (vs[11]? : Option Value) with | some (Value.ref P) => decide (P ≠ cdAt K p) | _ => false) && fieldsAt vs)
  | _ => false)
theorem tabB_ok {K : PySem.W.Frag} {p : Ad} (h : tabB K p = true) : codeVal K p = some (.ref (cdAt K p)) ∧ ∀ hp : Heap, K.In hp → PySem.W.CodeHd hp (cdAt K p) (tabAt K p) := by
  unfold tabB at h
  obtain ⟨h1, h2⟩ := He.ba h
  refine ⟨?_, fun hp X => ?_⟩
  · split at h1
    · rename_i c e; unfold cdAt; rw [e]
    · cases h1
  · split at h2
    · rename_i t dd vs sl e
      obtain ⟨h3, h4⟩ := He.ba h2
      obtain ⟨h5, h6⟩ := He.ba h4
      have e3 : t = "code" := of_decide_eq_true h3
      subst e3
      split at h5
      · rename_i P eP
        have ne : P ≠ cdAt K p := of_decide_eq_true h5
        have eT : tabAt K p = P := by unfold tabAt; rw [e]; simp only [eP]
        rw [eT]
        unfold fieldsAt at h6
        obtain ⟨g1, h6⟩ := He.ba h6
        obtain ⟨g2, h6⟩ := He.ba h6
        obtain ⟨g3, g4⟩ := He.ba h6
        split at g1
        · rename_i f tf ef
          split at g2
          · rename_i fl tg efl
            split at g3
            · rename_i b eb
              split at g4
              · rename_i tx tt et
                exact ⟨_, vs, f, tf, fl, tg, b, tx, tt, X _ _ e, rfl, rfl, eP, by rw [Array.getD_eq_getD_getElem?, eP]; rfl, ef, efl, eb, et, Ne.symm ne⟩
              · cases g4
            · cases g3
          · cases g2
        · cases g1
      · cases h5
    · cases h2
abbrev AlL : Type := AlQ × Bool
def obsL (fa : List Fq) (fn : List DefQ) (ads : List Ad) (g : Addr → Option Obj) (K : PySem.W.Frag) : AlL :=
  (obsQ fa fn K, (ads.all fun p => tabB K p && ((match g (tabAt K p) with | some o => isTab0 o | none => false))) && decide (ads.map (tabAt K)).Nodup)
def valL (fn : List DefQ) : AlL := (valQ fn, true)
def obsLG (n : Nat) (fa : List Fq) (fn : List DefQ) (ads : List Ad) (g : Addr → Option Obj) : AlL := obsL fa fn ads g (frL g (cStatics :: He.asD g n))
structure SaysL (fa : List Fq) (fn : List DefQ) (ads : List Ad) (K : PySem.W.Frag) (h : Heap) : Prop where
  q : obsQ fa fn K = valQ fn
  tab : ∀ p ∈ ads, tabB K p = true
  emp : ∀ p ∈ ads, h.get? (tabAt K p) = some { cls := .none, data := .fields #[] }
  out : ∀ p ∈ ads, K.lookup (tabAt K p) = none
  nd : (ads.map (tabAt K)).Nodup
def hookL (n : Nat) (fa : List Fq) (fn : List DefQ) (ads : List Ad) : PySem.W.Hook where
  α := AlL
  obs := fun s => obsLG n fa fn ads s.heap.get?
  val := fun _ => valL fn
  says := fun _ h => ∃ K : PySem.W.Frag, K.In h ∧ SaysL fa fn ads K h
  of := fun _ s e => by
    have e1 := congrArg Prod.fst e
    have e2 := congrArg Prod.snd e
    obtain ⟨e3, e4⟩ := He.ba (show (_ && _) = true from e2)
    have hall := List.all_eq_true.mp e3
    have hemp : ∀ p ∈ ads, s.heap.get? (tabAt (frL s.heap.get? (cStatics :: He.asD s.heap.get? n)) p) = some { cls := .none, data := .fields #[] } := fun p hp => by
      obtain ⟨_, h2⟩ := He.ba (hall p hp)
      split at h2
      · rename_i o eo
        rw [eo, isTab0_ok h2]
      · cases h2
    refine ⟨_, frL_in, e1, fun p hp => (He.ba (hall p hp)).1, hemp, fun p hp => ?_, of_decide_eq_true e4⟩
    cases z : (frL s.heap.get? (cStatics :: He.asD s.heap.get? n)).lookup (tabAt (frL s.heap.get? (cStatics :: He.asD s.heap.get? n)) p) with
    | none => rfl
    | some o =>
      obtain ⟨z1, z2⟩ := frL_mem z
      rw [hemp p hp] at z1
      cases z1
      simp [isTab0] at z2
  keeps := fun _ _ _ ⟨K, hK, c⟩ k => ⟨K, PySem.W.Frag.In.keeps hK k, c.q, c.tab, fun p hp => k _ _ (c.emp p hp), c.out, c.nd⟩
theorem obsLG_is {n : Nat} {fa : List Fq} {fn : List DefQ} {ads : List Ad} {g : Addr → Option Obj} {s : Shared} (h : ∀ a, g a = s.heap.get? a) : obsLG n fa fn ads g = (hookL n fa fn ads).obs s := by
  have e : g = s.heap.get? := funext h
  rw [e]; rfl
/-- the tables of the defs ads, each with its lambdas' name -/
def tabsOf (K : PySem.W.Frag) (ads : List (Ad × Str)) : List (Addr × Str) := ads.map fun p => (tabAt K p.1, p.2)
def codesOf (K : PySem.W.Frag) (ads : List (Ad × Str)) : List (Addr × Addr) := ads.map fun p => (cdAt K p.1, tabAt K p.1)
theorem tabQ_of {fa : List Fq} {fn : List DefQ} {ads : List (Ad × Str)} {c : Cl} {h : Heap} {mg : Str → Option Value} {base : Heap} {d : DefQ} {q : Str} (S : SaysL fa fn (ads.map (·.1)) c.K h) (hc : c.tabs = tabsOf c.K ads) (TB : ∀ p ∈ codesOf c.K ads, TabB base mg p.1 p.2) (i : Nat) (hi : ads[i]? = some (d.at_, q)) : TabQ c mg base d q := by
  refine ⟨fun cdv e => ?_⟩
  have m := List.mem_of_getElem? hi
  have t := S.tab d.at_ (List.mem_map.mpr ⟨_, m, rfl⟩)
  obtain ⟨t1, _⟩ := tabB_ok t
  rw [t1] at e; cases e
  refine ⟨cdAt c.K d.at_, tabAt c.K d.at_, rfl, TB _ (List.mem_map.mpr ⟨_, m, rfl⟩), by rw [hc]; exact List.mem_map.mpr ⟨_, m, rfl⟩, fun p hp e => ?_⟩
  rw [hc] at hp
  obtain ⟨p', m', e'⟩ := List.mem_map.mp hp
  subst e'
  have e : tabAt c.K p'.1 = tabAt c.K d.at_ := e
  obtain ⟨j, hj⟩ := List.mem_iff_getElem?.mp m'
  have nd := S.nd
  rw [List.map_map] at nd
  have gi : (ads.map ((tabAt c.K) ∘ (·.1)))[i]? = some (tabAt c.K d.at_) := by simp [hi]
  have gj : (ads.map ((tabAt c.K) ∘ (·.1)))[j]? = some (tabAt c.K d.at_) := by simp [hj, e]
  have ij : i = j := by
    have li := (List.getElem?_eq_some_iff.mp gi).1
    exact (List.getElem?_inj li nd).mp (gi.trans gj.symm)
  subst ij
  rw [hi] at hj; cases hj
  rfl
theorem law_endL {l : PySem.W.OpenLaw} {n k : Nat} {q : Program} {loose : List Str} {XQ : (Str → Option Value) → Heap → Prop} {YQ : World → Heap → Prop} {d : DefRec} {x : Str} {ads : List (Ad × Str)} {fa : List Fq} {fn : List DefQ} (hn : l.most = some n) (hn2 : n ≤ sizeLine) (hdf : d.params.defaults = []) (hr : Room k callerA)
    (go : ∀ (w : World) (mg : Str → Option Value) (fx : Addr) (h : Heap), YQ w h → h.Ns mainGlobals mg → mg d.name = some (.ref fx) → ∃ (c : Cl) (fd : FuncData) (run : Fn), c.K.In h ∧ SaysL fa fn (ads.map (·.1)) c.K h ∧ c.tabs = tabsOf c.K ads ∧ (∀ (s : Shared) (u : Value), BindsTo s fd ⟨[u], []⟩ [(x, u)]) ∧
      (∀ ns : List Int, ns.length ≤ n → (∀ z ∈ ns, Builtin.Int.intBits z ≤ 1048576) → ∃ M', run [.scr (ns.map D.int)] [] = .ok (.bl true) M') ∧
      ∀ base : Heap, c.K.In base → base.Ns mainGlobals mg → (∀ p ∈ codesOf c.K ads, TabB base mg p.1 p.2) → FnOk l.prog w c.K mg base (L2.CX l.prog w) k fx fd [x] (spF c 1 run)) :
    PySem.W.WalkO q loose XQ YQ l.row.toRowW d [] (fun f vs => PySem.call f vs) := by
  refine walk_ofTsE (x := x) (CX := fun w => L2.CX l.prog w) hn hn2 hdf hr (fun w mg fx h Y hg hm => ?_) fun w H s e s' => cx_end
  obtain ⟨c, fd, run, KX, S, hT, hb, hp, hF⟩ := go w mg fx h Y hg hm
  have two : ∀ p ∈ codesOf c.K ads, ∃ p', p' ∈ ads.map (·.1) ∧ p = (cdAt c.K p', tabAt c.K p') := fun p hp => by
    obtain ⟨p', m, e⟩ := List.mem_map.mp hp
    exact ⟨p'.1, List.mem_map.mpr ⟨_, m, rfl⟩, e.symm⟩
  refine ⟨c.K, KX, fd, codesOf c.K ads, spF c 1 run, fun p hp => ?_, fun p hp => ?_, fun p hp => ?_, hb, fun H a ns hl hbits hH hS => law_sp (fun p hp => ?_) hS (hp ns hl hbits), hF⟩
  · obtain ⟨p', m, rfl⟩ := two p hp; exact S.emp p' m
  · obtain ⟨p', m, rfl⟩ := two p hp; exact S.out p' m
  · obtain ⟨p', m, rfl⟩ := two p hp; exact (tabB_ok (S.tab p' m)).2 h KX
  · rw [hT] at hp
    obtain ⟨p', m, rfl⟩ := List.mem_map.mp hp
    exact TabS.nil (hH _ (List.mem_map.mpr ⟨_, m, rfl⟩))
end Q

namespace Q
open PySem PySem.Spec PyProof.Rows L2 LamX NdefX

/-! ### own exception classes: their __init__, raise, as a generator writes them -/
structure Xq (P : Program) (w : World) (c : Cl) (mg : Str → Option Value) (base : Heap) (d : DefQ) (k : Nat) (ps : List Str) (tl : List Value) (newId : String) (np : Nat) (ns : List Str) (mk : List V → List (Str × V)) : Prop where
  ex : ∃ fd, FnOk P w c.K mg base (L2.CX P w) k (adr c.K d.at_) fd ps (spI c.K tl newId np ns mk) ∧ FunQ c.K d (adr c.K d.at_) fd
def mk0 (cd : Str) : List V → List (Str × V) := fun _ => [(("code" : Str), V.str cd)]
def mk1 (cd f : Str) : List V → List (Str × V) := fun ws => (ws.map fun y => (f, y)) ++ [(("code" : Str), V.str cd)]
def mk2 (cd f g : Str) : List V → List (Str × V) := fun ws => match ws with | [x, y] => [(g, y), (f, x), (("code" : Str), V.str cd)] | _ => []
def mkD0 (cd : Str) : List D → List (Str × D) := fun _ => [(("code" : Str), D.str cd)]
def mkD1 (cd f : Str) : List D → List (Str × D) := fun ws => (ws.map fun y => (f, y)) ++ [(("code" : Str), D.str cd)]
def mkD2 (cd f g : Str) : List D → List (Str × D) := fun ws => match ws with | [x, y] => [(g, y), (f, x), (("code" : Str), D.str cd)] | _ => []
section
variable {c : Cl}
theorem mkr0 {cd : Str} : MkRel c (mk0 cd) (mkD0 cd) := fun θ P ds vs r => ⟨_, [], rfl, rfl, rfl⟩
theorem mkr1 {cd f : Str} : MkRel c (mk1 cd f) (mkD1 cd f) := fun θ P ds vs r => by
  unfold mk1 mkD1
  induction ds generalizing vs with
  | nil => cases r; exact ⟨_, [], rfl, rfl, rfl⟩
  | cons d ds ih =>
    obtain ⟨v, vr, rfl, ra, rb⟩ := r
    exact ⟨v, _, rfl, ra, ih vr rb⟩
theorem mkr2 {cd f g : Str} : MkRel c (mk2 cd f g) (mkD2 cd f g) := fun θ P ds vs r => by
  match ds, vs, r with
  | [], _, r => cases r; rfl
  | [d], _, r => obtain ⟨v, rfl, _⟩ := r.inv1; rfl
  | [d, e], _, r =>
    obtain ⟨v, u, rfl, ra, rb⟩ := r.inv2
    exact ⟨u, _, rfl, rb, v, _, rfl, ra, _, [], rfl, rfl, rfl⟩
  | d :: e :: f' :: ds, _, r =>
    obtain ⟨v1, r1, rfl, _, r⟩ := r
    obtain ⟨v2, r2, rfl, _, r⟩ := r
    obtain ⟨v3, r3, rfl, _, r⟩ := r
    rfl
end
/-- what the head checks of an exception's base class, of its own __init__ -/
def exBaseB (K : PySem.W.Frag) (b : Str) (initId : String) : Bool := PySem.W.readsIn K (He.ga K b) (.type "type") && (He.eqO (PySem.W.specialIn K (.ref (He.ga K b)) "__getattribute__") (some (some (.builtin "type.__getattribute__"))) &&
  (match PySem.W.findCls K (.ref (He.ga K b)) (.type "type") "__init__" with | some (.val (.builtin n)) => decide (n = initId) | _ => false))
def exTypB (K : PySem.W.Frag) (B initId : String) : Bool := (match PySem.W.findCls K (.type B) (.type "type") "__init__" with | some (.val (.builtin n)) => decide (n = initId) | _ => false)
def exInitB (K : PySem.W.Frag) (x : Str) (p : Ad) : Bool := He.eqO (PySem.W.findIn K (.ref (He.ga K x)) "__init__") (some (some (.ref (adr K p)))) && decide (PySem.W.typeIn K (.ref (adr K p)) = some (.type "function"))
theorem exBase_ok {K : PySem.W.Frag} {b : Str} {initId : String} (h : exBaseB K b initId = true) : PySem.W.readsIn K (He.ga K b) (.type "type") = true ∧ PySem.W.specialIn K (.ref (He.ga K b)) "__getattribute__" = some (some (.builtin "type.__getattribute__")) ∧ PySem.W.findCls K (.ref (He.ga K b)) (.type "type") "__init__" = some (.val (.builtin initId)) := by
  obtain ⟨h1, h2⟩ := He.ba h
  obtain ⟨h2, h3⟩ := He.ba h2
  refine ⟨h1, He.eqO_ok h2, ?_⟩
  split at h3
  · rename_i n e; rw [e, of_decide_eq_true h3]
  · cases h3
theorem exTyp_ok {K : PySem.W.Frag} {B initId : String} (h : exTypB K B initId = true) : PySem.W.findCls K (.type B) (.type "type") "__init__" = some (.val (.builtin initId)) := by
  unfold exTypB at h
  split at h
  · rename_i n e; rw [e, of_decide_eq_true h]
  · cases h
theorem exInit_ok {K : PySem.W.Frag} {x : Str} {p : Ad} (h : exInitB K x p = true) : PySem.W.findIn K (.ref (He.ga K x)) "__init__" = some (some (.ref (adr K p))) ∧ PySem.W.typeIn K (.ref (adr K p)) = some (.type "function") := by
  obtain ⟨h1, h2⟩ := He.ba h
  exact ⟨He.eqO_ok h1, of_decide_eq_true h2⟩
section
variable {P : Program} {w : World} {c : Cl} {mg : Str → Option Value} {base : Heap} {d : DefQ} {k np : Nat} {ps N ns : List Str} {fa : List Fq} {fn : List DefQ} {cs : List Str} {tl : List Value} {newId : String} {mk : List V → List (Str × V)}
theorem xq_ok (S : Kq fa fn cs c mg) (i : Nat) (hi : fn[i]? = some d) (hc : d.clo = []) (SC : FnScope N ps d.scope) (hps : ps.length = np + 1) (t : TS)
    (hb : ∀ (f : Addr) (cdv : Value) (A : Around) (outer : List Env) (s : Shared) (H : Hp) (E : XK), PSs (cxOf (L2.CX P w) P w c.K mg base N d.qual d.scope f cdv A outer s H E) d.body t)
    (ht : ∀ vs H Q E, spI c.K tl newId np ns mk vs H Q E → t { nx := fun _ H' => Q .non H', rt := Q } (L2.start N vs) H) : Xq P w c mg base d 1 ps tl newId np ns mk := by
  obtain ⟨fd, F⟩ := S.defd i d hi
  refine ⟨fd, (F.funD hc).ok SC (fun vs H Q E h => ?_) (fun cdv A outer s H vs Q E hrm h => ⟨t, hb _ cdv A outer s H E, ht vs H Q E h⟩), F⟩
  obtain ⟨a, C, ws, rfl, hl, _⟩ := h
  simp [hl, hps]
end
section
variable {X : Cx} {c : Cl} {W : WX} {E : XK} {e : Expr} {es : List Expr} {ra : Rn (List D)} {p pos pos2 : Pos} {x : Str} {B newId initId : String} {tl : List Value} {k np : Nat} {ps ns : List Str} {mk : List V → List (Str × V)} {mkD : List D → List (Str × D)} {d : DefQ}
theorem pass0' : Passes (L2.CX X.prog X.w) X E0 := fun _ _ _ _ _ _ _ h => (cxE0 h).elim
/-- raise C(e, ..) -/
theorem st_raiseX (hK : c.K = X.K) (hcalm : X.calm = true) (tk : Takes X W) (XB : ExB B newId initId tl) (D0 : Xq X.prog X.w c X.mg X.base d k ps tl newId np ns mk) (hnp : np ≤ 100) (hps : ps.length = np + 1) (hr : Room (k + 1) X.A) (hx : exAll c.K tl newId (He.ga c.K x) ns = true) (hi : exInitB c.K x d.at_ = true)
    (hm : X.mg x = some (.ref (He.ga c.K x))) (hC : c.adr x = some (He.ga c.K x)) (hmk : MkRel c mk mkD) (hd : d.dfl = [])
    (hb : ∀ (clo : List (Str × Addr)) (kV doc pm : Value) (an : Option Addr) (cdv ct : Value) (us : List Value), us.length = ps.length → bindArgs (PySem.W.fnX d.name d.qual d.params d.body d.scope clo .none kV doc pm an cdv ct) ⟨us, []⟩ = pure (ps.zip us)) (ha : PA X (e :: es) (liftA c W ra))
    (hg : Gl X x := by rfl) (hdb : (x == ("__debug__" : Str)) = false := by decide) (he : starEach (e :: es) X.env = (false, eval e X.env) :: starEach es X.env := by rfl) (hpl : (backTo pos (starEach es X.env)).any (·.1) = false := by rfl) :
    PS X (.Raise (some (.Call (.Name x p) (e :: es) [] pos)) none pos2) (liftS c W (rRaise x np mkD ra)) := by
  obtain ⟨fd, F1, F2⟩ := D0.ex
  rw [hK] at F1 F2 hm hx hi
  obtain ⟨h1, h2, h3, h4, h5⟩ := exAll_ok hx
  obtain ⟨i1, i2⟩ := exInit_ok hi
  refine st_raise (n := x) (C := He.ga X.K x) hcalm tk (by rw [← hK]; exact hC) hmk (pmk_e XB h1 h3 (raises_own h4 h5) i1 i2 F1 hnp hr ?_ pass0' hg hm ha hdb he hpl)
  exact F2.bindsN hd hb
end
/-! ### ==, !=: plain values, or an instance's own -/
def insD (d : D) (M : MS) : Bool := (insOf d M).isSome
def opEqA (T : List (Str × Fn)) (ord : Str → Ty → Option Bool) (d e : D) (M : MS) : Res D := if insD d M = true then opEqO T ord d e M else opEq false d e M
section
variable {X : Cx} {c : Cl} {W : WX}
theorem liftE_or {r r1 r2 : Rn D} (h : ∀ ρ M, r ρ M = r1 ρ M ∨ r ρ M = r2 ρ M) {σ : L2.St} {H : Hp} {Q : VK} (k : liftE c W r σ H Q) : liftE c W r1 σ H Q ∨ liftE c W r2 σ H Q := by
  obtain ⟨ρ, M, θ, P, w, er, o⟩ := k
  rcases h ρ M with e | e
  · rw [e] at o; exact .inl ⟨ρ, M, θ, P, w, er, o⟩
  · rw [e] at o; exact .inr ⟨ρ, M, θ, P, w, er, o⟩
theorem rOp2_or {f g : D → D → MS → Res D} {t : D → MS → Bool} {a b : Rn D} (ρ : Ev) (M : MS) : rOp2 (fun d e M => if t d M = true then f d e M else g d e M) a b ρ M = rOp2 f a b ρ M ∨ rOp2 (fun d e M => if t d M = true then f d e M else g d e M) a b ρ M = rOp2 g a b ρ M := by
  unfold rOp2
  cases a ρ M with
  | stuck => exact .inl rfl
  | err n fs M1 => exact .inl rfl
  | ok x M1 =>
    simp only [Res.bind]
    cases b ρ M1 with
    | stuck => exact .inl rfl
    | err n fs M2 => exact .inl rfl
    | ok y M2 =>
      simp only [Res.bind]
      cases t x M2 with
      | true => exact .inl rfl
      | false => exact .inr rfl
theorem s_eqA {T : List (Str × Fn)} {ord : Str → Ty → Option Bool} {e : Expr} {a b : Rn D} (h1 : PE X e (liftE c W (rOp2 (opEqO T ord) a b))) (h2 : PE X e (liftE c W (rOp2 (opEq false) a b))) : PE X e (liftE c W (rOp2 (opEqA T ord) a b)) :=
  PE.imp (PE.both h1 h2) fun σ H Q k => liftE_or (fun ρ M => rOp2_or ρ M) k
end
end Q

namespace Q
open PySem PySem.Spec PyProof.Rows L2 LamX NdefX

/-! ### what a generator writes: facts of the head by one look each -/
/-- what every law's c is -/
structure CA (cs : List Str) (c : Cl) : Prop where
  adr : ∀ n C, c.adr n = some C → C = He.ga c.K n ∧ n ∈ cs
  at_ : ∀ n ∈ cs, c.adr n = some (He.ga c.K n)
structure CW (cs : List Str) (lams : List LamTx) (c : Cl) : Prop extends CA cs c where
  own : c.own = none
  hot : c.hot = none
  lams : c.lams = lams
theorem CA.mine {cs : List Str} {c : Cl} {cells : List (Str × Addr)} (A : CA cs c) : CA cs (c.mine cells) := ⟨A.adr, A.at_⟩
theorem CA.heat {cs : List Str} {c : Cl} {p : Addr × Obj} (A : CA cs c) : CA cs (heat c p) := ⟨A.adr, A.at_⟩
def insB (K : PySem.W.Frag) (ns : List Str) : Bool := ns.all fun x => (Fq.ins x).ok K
def isB (K : PySem.W.Frag) (tb : IsTab) : Bool := tb.all fun p => decide (PySem.W.kitOne K (tyV K p.1.1) (tyV K p.1.2) = some p.2)
def ordB (K : PySem.W.Frag) (tb : List ((Str × Ty) × Bool)) : Bool := tb.all fun p => if p.2 = true then (match p.1.2 with
    | .inr m => decide (He.ga K p.1.1 ≠ He.ga K m) && decide (PySem.W.subIn K (.ref (He.ga K m)) (.ref (He.ga K p.1.1)) = some true)
    | _ => false) else PySem.W.notFirst K (He.ga K p.1.1) (tyV K p.1.2)
def tyNames : List Ty → List Str
  | [] => []
  | .inr n :: r => n :: tyNames r
  | _ :: r => tyNames r
section
variable {c : Cl} {cs : List Str} {lams : List LamTx} {X : Cx} {m : Str} {n : Str} {d : DefQ} {k : Nat} {ps : List Str} {run : Fn}
theorem ins_at (A : CA cs c) {ns : List Str} (h : insB c.K ns = true) {x : Str} (hx : x ∈ ns) {C : Addr} (hC : c.adr x = some C) {H : Hp} {a dx : Addr} {fs : List (Str × V)} (e : H a = some (.ins C dx fs)) : TyOf c.K H (.ref a) (.ref C) := by
  have := (A.adr _ _ hC).1
  subst this
  exact ins_ok (List.all_eq_true.mp h x hx) e
theorem isOk_of (A : CA cs c) {tb : IsTab} {ns : List Str} (h : isB c.K tb = true) (hi : insB c.K ns = true) (hl : ∀ p ∈ tb, ∀ n, (p.1.1 = .inr n → n ∈ ns ∧ n ∈ cs) ∧ (p.1.2 = .inr n → n ∈ cs)) : IsOk c tb where
  one := fun t u b m => by
    have e := of_decide_eq_true (List.all_eq_true.mp h _ m)
    refine ⟨tyV c.K t, tyV c.K u, ?_, ?_, e⟩
    · cases t with
      | inl b => rfl
      | inr n => show (c.adr n).map Value.ref = _; rw [A.at_ n ((hl _ m n).1 rfl).2]; rfl
    · cases u with
      | inl b => rfl
      | inr n => show (c.adr n).map Value.ref = _; rw [A.at_ n ((hl _ m n).2 rfl)]; rfl
  ins := fun t u b n m e C hC H a dx fs he => ins_at A hi ((hl _ m n).1 e).1 hC he
theorem ordOk_of (A : CA cs c) {tb : List ((Str × Ty) × Bool)} {ns : List Str} (h : ordB c.K tb = true) (hi : insB c.K ns = true) (hl : ∀ p ∈ tb, ∀ n, p.1.2 = .inr n → n ∈ ns) : OrdOk c (fun n t => tb.lookup (n, t)) where
  left := fun n t e C hC y hy => by
    have z := List.all_eq_true.mp h _ (Q.lookup_mem e)
    simp only [Bool.false_eq_true, if_false] at z
    obtain ⟨rfl, _⟩ := A.adr _ _ hC
    have : y = tyV c.K t := by
      cases t with
      | inl b => cases hy; rfl
      | inr n =>
        simp only [valT, Option.map_eq_some_iff] at hy
        obtain ⟨a, h1, h2⟩ := hy
        obtain ⟨rfl, _⟩ := A.adr _ _ h1
        exact h2.symm
    rw [this]; exact z
  right := fun n m e C D hC hD => by
    have z := List.all_eq_true.mp h _ (Q.lookup_mem e)
    simp only [if_true] at z
    obtain ⟨rfl, _⟩ := A.adr _ _ hC
    obtain ⟨rfl, _⟩ := A.adr _ _ hD
    obtain ⟨z1, z2⟩ := He.ba z
    exact ⟨fun e => of_decide_eq_true z1 (by injection e), of_decide_eq_true z2⟩
  ins := fun n m b e D hD H a dx fs he => ins_at A hi (hl _ (Q.lookup_mem e) m rfl) hD he
theorem meth_same {K : PySem.W.Frag} {C f g : Addr} {m : Str} (h : Meth K C m f) (e : f = g) : Meth K C m g := e ▸ h
theorem prop_same {K : PySem.W.Frag} {C p f g : Addr} {m : Str} (h : PropOf K C m p f) (e : f = g) : PropOf K C m p g := e ▸ h
theorem mk_same {K : PySem.W.Frag} {C f g : Addr} (h : Mk K C f) (e : f = g) : Mk K C g := e ▸ h
theorem eq_of (hK : c.K = X.K) (A : CA cs c) (hm : Meth c.K (He.ga c.K n) "__eq__" (adr c.K d.at_)) (F : Dq X.prog X.w c X.mg X.base d k ps run) (hn : ps.length = 2) (hr : Room k X.A) (hd : d.dfl = [])
    (hb : ∀ (clo : List (Str × Addr)) (kV doc pm : Value) (an : Option Addr) (cdv ct : Value) (us : List Value), us.length = ps.length → bindArgs (PySem.W.fnX d.name d.qual d.params d.body d.scope clo .none kV doc pm an cdv ct) ⟨us, []⟩ = pure (ps.zip us)) : EqOk X c n run := by
  refine ⟨fun C hC => ?_⟩
  obtain ⟨rfl, _⟩ := A.adr _ _ hC
  obtain ⟨fd, F1, F2⟩ := F.ex
  rw [hK] at F1 F2 hm ⊢
  rw [hn] at F1
  exact ⟨_, fd, ps, k, hm.at_, hm.fn, F1, hr, F2.bindsN hd hb⟩
theorem eqT_nil : ∀ n run, ([] : List (Str × Fn)).lookup n = some run → EqOk X c n run := fun _ _ h => nomatch h
theorem eqT_cons {T : List (Str × Fn)} (h1 : EqOk X c n run) (h : ∀ n run, T.lookup n = some run → EqOk X c n run) : ∀ n' run', ((n, run) :: T).lookup n' = some run' → EqOk X c n' run' := fun n' run' e => by
  simp only [List.lookup] at e
  split at e
  · rename_i q
    have q : n' = n := by simpa using q
    subst q; cases e; exact h1
  · exact h n' run' e
theorem rp_of (hK : c.K = X.K) (A : CA cs c) (hm : Meth c.K (He.ga c.K n) "__repr__" (adr c.K d.at_)) (F : Dq X.prog X.w c X.mg X.base d k ps run) (hn : ps.length = 1) (hr : Room (k + 1) X.A) (hd : d.dfl = [])
    (hb : ∀ (clo : List (Str × Addr)) (kV doc pm : Value) (an : Option Addr) (cdv ct : Value) (us : List Value), us.length = ps.length → bindArgs (PySem.W.fnX d.name d.qual d.params d.body d.scope clo .none kV doc pm an cdv ct) ⟨us, []⟩ = pure (ps.zip us)) : RpOk X c n run := by
  refine ⟨fun C hC => ?_⟩
  obtain ⟨rfl, _⟩ := A.adr _ _ hC
  obtain ⟨fd, F1, F2⟩ := F.ex
  rw [hK] at F1 F2 hm ⊢
  rw [hn] at F1
  exact ⟨_, fd, ps, k, hm.at_, hm.fn, F1, hr, F2.bindsN hd hb⟩
theorem rpT_nil : ∀ n run, ([] : List (Str × Fn)).lookup n = some run → RpOk X c n run := fun _ _ h => nomatch h
theorem rpT_cons {T : List (Str × Fn)} (h1 : RpOk X c n run) (h : ∀ n run, T.lookup n = some run → RpOk X c n run) : ∀ n' run', ((n, run) :: T).lookup n' = some run' → RpOk X c n' run' := fun n' run' e => by
  simp only [List.lookup] at e
  split at e
  · rename_i q
    have q : n' = n := by simpa using q
    subst q; cases e; exact h1
  · exact h n' run' e
/-- fields of exceptions -/
theorem xf_of {f : Str} (A : CA cs c) {ns : List Str} {tl : Str → List Value} {nw : Str → String} {fl : Str → List Str} (h : ∀ n ∈ ns, exAll c.K (tl n) (nw n) (He.ga c.K n) (fl n) = true ∧ f ∈ fl n) : XfOk c ns f := fun n hn C hC => by
  obtain ⟨rfl, _⟩ := A.adr _ _ hC
  obtain ⟨h1, h2⟩ := h n hn
  obtain ⟨g1, g2, g3, _⟩ := exAll_ok h1
  exact ⟨g2, g3 f h2⟩
def exmB (K : PySem.W.Frag) (ns bs : List Str) : Bool := ns.all fun n => decide (PySem.W.exmAny K (.ref (He.ga K n)) (bs.map fun b => Value.ref (He.ga K b)) = some true)
/-- the exceptions that the handler takes -/
def hdT (ns : List Str) : Str → Option Bool := fun n => if ns.contains n = true then some true else none
theorem hd_of (hK : c.K = X.K) (A : CA cs c) {ns : List Str} {b1 b2 b3 : Str} (h : exmB c.K ns [b1, b2, b3] = true) : ∀ m b, hdT ns m = some b → ∀ C, c.adr m = some C → PySem.W.exmAny X.K (.ref C) [.ref (He.ga c.K b1), .ref (He.ga c.K b2), .ref (He.ga c.K b3)] = some b := fun m b e C hC => by
  obtain ⟨rfl, _⟩ := A.adr _ _ hC
  unfold hdT at e
  split at e
  · rename_i q
    cases e
    rw [← hK]
    exact of_decide_eq_true (List.all_eq_true.mp h m (by simpa using q))
  · cases e
end
/-! ### a, b, c = x, y, z -/
def rPar3 (i j l : Nat) (a : Rn (List D)) : Sn := fun ρ M => bindS (a ρ M) ρ fun ds M1 => match ds with
  | [d, e, f] => .nx (((ρ.set i (some d)).set j (some e)).set l (some f)) M1
  | _ => .stuck
section
variable {X : Cx} {c : Cl} {W : WX}
theorem st_parX {i j : Nat} {x y : Str} {a b : Expr} {px py pt pos : Pos} {kt k2 pt2} {ra : Rn (List D)} (hc : X.calm = true) (hN : X.N.Nodup) (hi : X.N[i]? = some x) (hj : X.N[j]? = some y) (hij : i ≠ j)
    (hx : X.env.scope.names.lookup x = some .local) (hy : X.env.scope.names.lookup y = some .local) (ha : PA X [a, b] (liftA c W ra))
    (hw : swappedStores [.Tuple [.Name x px, .Name y py] kt pt] (.Tuple [a, b] k2 pt2) X.env = pure (some [x, y]) := by rfl) (hs : swapsWithSole [.Tuple [.Name x px, .Name y py] kt pt] (.Tuple [a, b] k2 pt2) pos.line X.env = pure false := by rfl) :
    PS X (.Assign [.Tuple [.Name x px, .Name y py] kt pt] (.Tuple [a, b] k2 pt2) pos) (liftS c W (rPar i j ra)) :=
  st_par hc hN hi hj hij hx hy ha (ps_par hc hN hi hj hij hx hy ha hw hs)
theorem st_par3 {i j l : Nat} {x y z : Str} {a b e : Expr} {px py pz pt pos : Pos} {kt k2 pt2} {ra : Rn (List D)} (hc : X.calm = true) (hN : X.N.Nodup) (hi : X.N[i]? = some x) (hj : X.N[j]? = some y) (hl : X.N[l]? = some z) (hij : i ≠ j) (hil : i ≠ l) (hjl : j ≠ l)
    (hx : X.env.scope.names.lookup x = some .local) (hy : X.env.scope.names.lookup y = some .local) (hz : X.env.scope.names.lookup z = some .local) (ha : PA X [a, b, e] (liftA c W ra))
    (hw : swappedStores [.Tuple [.Name x px, .Name y py, .Name z pz] kt pt] (.Tuple [a, b, e] k2 pt2) X.env = pure (some [x, y, z]) := by rfl) (hs : swapsWithSole [.Tuple [.Name x px, .Name y py, .Name z pz] kt pt] (.Tuple [a, b, e] k2 pt2) pos.line X.env = pure false := by rfl) :
    PS X (.Assign [.Tuple [.Name x px, .Name y py, .Name z pz] kt pt] (.Tuple [a, b, e] k2 pt2) pos) (liftS c W (rPar3 i j l ra)) :=
  PS.imp (ps_par3 hc hN hi hj hl hij hil hjl hx hy hz ha hw hs) fun E σ H ⟨ρ, M, θ, P, w, er, o⟩ => ⟨ρ, M, θ, P, w, er, OutS.bind (R := RL c) er o fun ds M1 vs H1 θ1 P1 w1 s1 r1 er1 o1 => by
    match ds, vs, r1, o1 with
    | [d1, d2, d3], vs, r1, o1 =>
      obtain ⟨v1, r, rfl, a1, r⟩ := r1
      obtain ⟨v2, r, rfl, a2, r⟩ := r
      obtain ⟨v3, r, rfl, a3, r⟩ := r
      cases r
      exact ⟨v1, v2, v3, rfl, o1 _ _ θ1 P1 w1 .refl (((er1.set i a1).set j a2).set l a3)⟩
    | [], _, _, o1 => exact o1.elim
    | [_], _, _, o1 => exact o1.elim
    | [_, _], _, _, o1 => exact o1.elim
    | _ :: _ :: _ :: _ :: _, _, _, o1 => exact o1.elim⟩
/-- defaults as data -/
theorem bnd_lift {d : DefQ} {ps ks : List Str} {ix : List Ar} {np : Nat} {vs : List V} {ds : List D} (h : ∀ fd, FunQ c.K d (adr c.K d.at_) fd → ∃ dv : List Value, Vals vs dv ∧ Bnd c.K fd ps np ks ix dv) (hv : ∀ θ P, VRL c θ P ds vs) :
    ∀ fd, FunQ c.K d (adr c.K d.at_) fd → ∃ (dv : List Value) (dvs : List V), Vals dvs dv ∧ (∀ θ P, VRL c θ P ds dvs) ∧ Bnd c.K fd ps np ks ix dv := fun fd F => by
  obtain ⟨dv, h1, h2⟩ := h fd F
  exact ⟨dv, vs, h1, hv, h2⟩
theorem LamHome.dq {P : Program} {w : World} {c : Cl} {mg : Str → Option Value} {base : Heap} {d : DefQ} {k : Nat} {ps : List Str} {run : Fn} {cells : List (Str × Addr)} {q : Str} (Z : LamHome X (c.mine cells) q) (hc : c.own = none) (F : Dq P w c mg base d k ps run) : Dq P w (c.mine cells) mg base d k ps (mineF run) := F.mine hc
/-- a class's constant, a whole number -/
def cvB (K : PySem.W.Frag) (n f : Str) (i : Int) : Bool := PySem.W.readsIn K (He.ga K n) (.type "type") && (He.eqO (PySem.W.specialIn K (.ref (He.ga K n)) "__getattribute__") (some (some (.builtin "type.__getattribute__"))) &&
  (match PySem.W.findCls K (.ref (He.ga K n)) (.type "type") f with | some (.val (.int j _)) => decide (j = i) | _ => false))
theorem cvI_of {cs : List Str} {c : Cl} {n f : Str} {i : Int} (A : CA cs c) (h : cvB c.K n f i = true) : CvOk c [(n, .int i)] f := fun n' d e C hC => by
  simp only [List.lookup] at e
  split at e
  · rename_i q
    have q : n' = n := by simpa using q
    subst q; cases e
    obtain ⟨rfl, _⟩ := A.adr _ _ hC
    obtain ⟨h1, h2⟩ := He.ba h
    obtain ⟨h2, h3⟩ := He.ba h2
    refine ⟨⟨h1, He.eqO_ok h2⟩, ?_⟩
    split at h3
    · rename_i j t e
      have := of_decide_eq_true h3
      subst this
      exact ⟨.int j, .int j t, ⟨e, t, rfl⟩, fun _ _ => rfl⟩
    · cases h3
  · cases e
end
end Q

namespace Q
open PySem PySem.Spec PyProof.Rows L2 LamX NdefX

/-! ### ways into a text -/
def xNo : Expr := .Constant .none 0 ⟨0, 0, 0, 0⟩
def sNo : Stmt := .Pass ⟨0, 0, 0, 0⟩
def stE : Stmt → Expr
  | .Assign _ v _ => v
  | .Return (some v) _ => v
  | .Expr v _ => v
  | .If t _ _ _ => t
  | .While t _ _ _ => t
  | _ => xNo
def stB (i : Nat) : Stmt → Stmt
  | .If _ b _ _ => b.getD i sNo
  | .For _ _ b _ _ => b.getD i sNo
  | .While _ b _ _ => b.getD i sNo
  | _ => sNo
def stO (i : Nat) : Stmt → Stmt
  | .If _ _ b _ => b.getD i sNo
  | _ => sNo
def xC (i : Nat) : Expr → Expr
  | .Call f as _ _ => (f :: as).getD i xNo
  | .List es _ => es.getD i xNo
  | .Tuple es _ _ => es.getD i xNo
  | .UnaryOp _ e _ => e
  | .BinOp a _ b _ => [a, b].getD i xNo
  | .BoolOp _ es _ => es.getD i xNo
  | .Compare a _ bs _ => (a :: bs).getD i xNo
  | .IfExp t a b _ => [t, a, b].getD i xNo
  | .Attribute v _ _ => v
  | .Subscript v s _ => [v, s].getD i xNo
  | _ => xNo
def lamP : Expr → Arguments
  | .Lambda a _ _ _ => a
  | _ => { posonlyargs := [], args := [], vararg := none, kwonlyargs := [], kw_defaults := [], kwarg := none, defaults := [] }
def lamB : Expr → Expr
  | .Lambda _ b _ _ => b
  | _ => xNo
def lamS : Expr → Scope
  | .Lambda _ _ s _ => s
  | _ => defScope sNo
section
variable {K : PySem.W.Frag} {d : DefQ} {f : Addr} {fd : FuncData} {ps ks : List Str} {ix : List Ar} {np : Nat}
/-- defaults by place alone -/
theorem bnd_pos (G : FunQ K d f fd) (hd : d.dfl ≠ []) (hk : d.kwd = [])
    (h : ∀ (clo : List (Str × Addr)) (T : Addr) (kV doc pm : Value) (an : Option Addr) (cdv ct : Value) (us its ws : List Value), us.length = np → its.length = d.dfl.length → ws.length = ks.length →
      ∃ k, bindArgs (PySem.W.fnX d.name d.qual d.params d.body d.scope clo (.ref T) kV doc pm an cdv ct) ⟨us, ks.zip ws⟩ = seqItems? (.ref T) >>= k ∧ k (some its.toArray) = pure (ps.zip (arr ix us ws its))) :
    ∃ dv : List Value, Vals (d.dvs K) dv ∧ Bnd K fd ps np ks ix dv := by
  obtain ⟨clo, oc, od, dV, kV, doc, pm, an, cdv, ct, osl, rfl, hcl, lk, k1, hD, hK⟩ := G.ex
  have n1 : d.dvs K ≠ [] := fun z => hd (List.map_eq_nil_iff.mp z)
  rcases hD with ⟨e, _⟩ | ⟨_, T, o, its, m, rfl, lT, oT, rT⟩
  · exact absurd e n1
  · have il : its.length = d.dfl.length := by rw [← rT.length]; simp [DefQ.dvs]
    refine ⟨its, rT, ⟨fun s us ws KX l1 l2 => ?_⟩⟩
    obtain ⟨k, e1, e2⟩ := h clo T kV doc pm an cdv ct us its ws l1 il l2
    refine BindsTo.of_looks fun M => ?_
    rw [e1]
    exact looks_items KX lT oT (PySem.W.Looks.of_pure e2)
end
end Q

namespace Q
open PySem PySem.Spec PyProof.Rows L2 LamX NdefX
/-- rows of tables -/
abbrev oo (n : Str) (t : Ty) (b : Bool) : (Str × Ty) × Bool := ((n, t), b)
abbrev ii (t u : Ty) (b : Bool) : (Ty × Ty) × Bool := ((t, u), b)
/-! ### == by an own __eq__ that does not raise, as an operator -/
section
variable {X : Cx} {c : Cl} {W : WX}
theorem run_two0 {f : Addr} {fd : FuncData} {ps : List Str} {k np : Nat} {run : Fn} {pins : List (Addr × Obj)} {σ : L2.St} {H : Hp} {s : Shared} {Q : VK} {us : List Value} {vs : List V} (F : FnOk X.prog X.w X.K X.mg X.base (L2.CX X.prog X.w) k f fd ps (spF c np run)) (hr : Room k X.A) (hb : Binds X.K fd ps [])
    (I : Inv X pins σ H s) (r : Vals vs us) (h : spF c np run vs H Q E0) : wpAny (model X.prog X.w) X.A (call (.ref f) us) (EP X pins σ Q) X.xe s :=
  run_fn (dvs := []) F hr hb .nil pass0' I r (by rw [List.append_nil]; exact h)
def rEqOo (c : Cl) (T : List (Str × Fn)) (ord : Str → Ty → Option Bool) : R2 := fun x y H Q => ∃ d e M θ P, Wo c θ P H M ∧ VR c θ P d x ∧ VR c θ P e y ∧ OutE c θ P H Q (fun _ _ _ => False) (opEqO T ord d e M)
theorem op_eqO {T : List (Str × Fn)} {ord : Str → Ty → Option Bool} (hK : c.K = X.K) (hu : X.A.units < cLine) (hT : ∀ n run, T.lookup n = some run → EqOk X c n run) (O : OrdOk c ord) : OpR X (compareOp .Eq) (rEqOo c T ord) := by
  intro pins s σ H x y v u Q I rx ry h
  obtain ⟨d, e, M, θ, P, w, rd, re, o⟩ := h
  unfold opEqO at o
  cases q1 : insOf d M with
  | none => simp only [q1] at o; exact o.elim
  | some nf =>
    obtain ⟨n, fs⟩ := nf
    obtain ⟨xa, C, dx, fv, rfl, k0, k1, k2⟩ := ins_read w rd q1
    have hv : v = Value.ref xa := rx
    subst hv
    cases q2 : tyN e M with
    | none => simp only [q1, q2] at o; exact o.elim
    | some t =>
      simp only [q1, q2] at o
      cases q3 : ord n t with
      | none => simp only [q3] at o; exact o.elim
      | some bb =>
        obtain ⟨ty, t1, t2⟩ := tyX_any w re q2 (fun m hm D hD a dx fs ea => by subst hm; exact O.ins n m bb q3 D hD H a dx fs ea)
        rw [hK] at t2
        obtain ⟨PP, Z, p, _⟩ := kit_of I ry t2
        obtain ⟨mA, J, _⟩ := ins_get I.hok k1
        obtain ⟨od, J, _⟩ := J.look
        obtain ⟨m0, hF⟩ := I.fr
        show wpAny (model X.prog X.w) X.A (richCompare .Eq (.ref xa) u) (EP X pins σ Q) X.xe s
        cases bb with
        | false =>
          simp only [q3] at o
          cases q4 : T.lookup n with
          | none => simp only [q4] at o; exact o.elim
          | some run =>
            simp only [q4] at o
            obtain ⟨f, fd, ps, k, h1, h2, F, hr, hbd⟩ := (hT n run q4).go C k0
            have nf := O.left n t q3 C k0 ty t1
            rw [hK] at nf
            refine PySem.W.cmp_K (op := .Eq) (tb := ty) hu hF I.ok.mod.kin J (Z.ty _ _ I.kIn p) nf h1 h2 ?_
            refine wpAny_mono (run_two0 (σ := σ) (us := [.ref xa, u]) (vs := [.ref xa, y]) F hr hbd I (.cons rfl (.cons ry .nil)) ⟨[d, e], M, θ, P, w, ⟨_, _, rfl, rd, _, _, rfl, re, rfl⟩, rfl, o⟩) (fun r s' z => ?_) fun _ _ x => x
            obtain ⟨z', H', I', rz, qz⟩ := z
            exact cmp_told rz ⟨z', H', I', rz, qz⟩
        | true =>
          simp only [q3] at o
          cases q5 : insOf e M with
          | none => simp only [q5] at o; exact o.elim
          | some mf =>
            obtain ⟨m, fs2⟩ := mf
            simp only [q5] at o
            cases q4 : T.lookup m with
            | none => simp only [q4] at o; exact o.elim
            | some run =>
              simp only [q4] at o
              by_cases ht : t = .inr m
              · rw [if_pos ht] at o
                subst ht
                obtain ⟨ya, D, dy, gv, rfl, j0, j1, j2⟩ := ins_read w re q5
                have hu' : u = Value.ref ya := ry
                subst hu'
                obtain ⟨f, fd, ps, k, h1, h2, F, hr, hbd⟩ := (hT m run q4).go D j0
                obtain ⟨mB, J', _⟩ := ins_get I.hok j1
                obtain ⟨od', J', _⟩ := J'.look
                obtain ⟨r1, r2⟩ := O.right n m q3 C D k0 j0
                rw [hK] at r2
                refine cmp_right hu hF I.ok.mod.kin J J' r1 r2 h1 h2 ?_
                refine wpAny_mono (run_two0 (σ := σ) (us := [.ref ya, .ref xa]) (vs := [.ref ya, .ref xa]) F hr hbd I (.cons rfl (.cons rfl .nil)) ⟨[e, d], M, θ, P, w, ⟨_, _, rfl, re, _, _, rfl, rd, rfl⟩, rfl, o⟩) (fun r s' z => ?_) fun _ _ x => x
                obtain ⟨z', H', I', rz, qz⟩ := z
                exact cmp_told rz ⟨z', H', I', rz, qz⟩
              · rw [if_neg ht] at o
                exact o.elim

theorem o_eqO {T : List (Str × Fn)} {ord : Str → Ty → Option Bool} : Op2 c (rEqOo c T ord) (fun d e M => calmly (opEqO T ord d e M)) := fun θ P H M d e x y Q Wx w rd re o => ⟨d, e, M, θ, P, w, rd, re, o.calm⟩
theorem OpR.or {op : Value → Value → Sem Value} {r r' : R2} (h : OpR X op r) (h' : OpR X op r') : OpR X op (fun x y H Q => r x y H Q ∨ r' x y H Q) := fun pins s σ H x y v u Q I rx ry k => k.elim (h pins s σ H x y v u Q I rx ry) (h' pins s σ H x y v u Q I rx ry)
def opEqAny (T : List (Str × Fn)) (ord : Str → Ty → Option Bool) (d e : D) (M : MS) : Res D := if insD d M = true then calmly (opEqO T ord d e M) else opEq false d e M
theorem op_eqAny {T : List (Str × Fn)} {ord : Str → Ty → Option Bool} (hK : c.K = X.K) (hu : X.A.units < cLine) (hT : ∀ n run, T.lookup n = some run → EqOk X c n run) (O : OrdOk c ord) (hd : OpR X (compareOp .Eq) (rEqD X.K)) : OpR X (compareOp .Eq) (fun x y H Q => rEqOo c T ord x y H Q ∨ rEqD c.K x y H Q) := by
  rw [show rEqD c.K = rEqD X.K from by rw [hK]]
  exact (op_eqO hK hu hT O).or hd
theorem o_eqAny {T : List (Str × Fn)} {ord : Str → Ty → Option Bool} : Op2 c (fun x y H Q => rEqOo c T ord x y H Q ∨ rEqD c.K x y H Q) (opEqAny T ord) := fun θ P H M d e x y Q Wx w rd re o => by
  unfold opEqAny at o
  split at o
  · exact .inl (o_eqO θ P H M d e x y Q Wx w rd re o)
  · exact .inr (o_eq θ P H M d e x y Q Wx w rd re o)
/-- xs.clear() -/
def fClear (d : D) : Fn := fun ds M => match d, ds with
  | .ref l, [] => match M[l]? with
    | some (.lst xs) => .ok .non (M.set l (.lst []))
    | _ => .stuck
  | _, _ => .stuck
theorem m_clear : MtD c rClear fClear := fun θ P H M d x ds vs Q Wx w rd r o => by
  match d, ds, o with
  | .ref l, [], o =>
    obtain ⟨a, e, rfl⟩ := rd
    cases r
    unfold fClear at o
    cases q : M[l]? with
    | none => simp only [q] at o; exact o.elim
    | some mo =>
      cases mo with
      | lst xs =>
        simp only [q] at o
        obtain ⟨ys, k1, k2⟩ := w.cell l a _ e q
        obtain ⟨w2, s2⟩ := w.setM (o := .lst []) (mo' := .lst []) e q (by simp) ⟨_, upd_same, rfl⟩
        exact ⟨a, ys, rfl, rfl, k1, o .non _ _ _ w2 s2 rfl⟩
      | inst n fs => simp only [q] at o; exact o.elim
      | dic t kvs => simp only [q] at o; exact o.elim
      | dead => simp only [q] at o; exact o.elim
end
section
variable {X : Cx} {c : Cl} {W : WX}
theorem s_mt0 {e : Expr} {T : String} {r : V → List V → Hp → VK → Prop} {f : D → Fn} {o : Rn D} (hK : c.K = X.K) (hf : MtD c r f) (h : PE X e (tBM0 X.K T r (liftE c W o))) : PE X e (liftE c W (rMt T f o rNil)) := PE.imp h fun σ H Q q => by
  obtain ⟨ρ, M, θ, P, w, er, o⟩ := q
  exact ⟨ρ, M, θ, P, w, er, Out.bind (R := RV c) o fun d M1 x H1 θ1 P1 w1 s1 r1 o1 => by
    obtain ⟨g, o1⟩ := Out.guard (R := RV c) o1
    exact ⟨by rw [← hK]; exact ty_read w1 r1 g, hf _ _ _ _ _ _ [] _ _ _ w1 r1 rfl o1⟩⟩
end
theorem roomH_mark {k : Nat} {A : Around} {v : Option Value} (r : Room k A) : L2H.RoomH k (A.mark v) := ⟨r.dp, r.un⟩
/-! ### a method that says super(), what it made stays -/
def fnSM (k : Nat) (cn : Str) (body : Sn) : Fn := fun ds M => endF (body (ds.map some ++ ([some (.cls cn)] ++ List.replicate (k - ds.length - 1) none)) M)
section
variable {P : Program} {w : World} {c : Cl} {mg : Str → Option Value} {base : Heap} {d : DefQ} {j k n : Nat} {ps N : List Str} {run : Fn} {fa : List Fq} {fn : List DefQ} {cs : List Str} {body : Sn} {cn file : Str}
theorem dqSM_ok (S : Kq fa fn cs c mg) (G : Pg P file) (i : Nat) (hi : fn[i]? = some d) (hcl : d.clo = [("__class__" : Str)]) (SC : NScope N ps [("__class__" : Str)] d.scope) (hC : c.adr cn = some (He.ga c.K cn)) (hs : mg "super" = none) (hf : (Fq.self d.at_ cn file).ok c.K = true)
    (hb : ∀ (f cd cc : Addr) (A : Around) (outer : List Env) (s : Shared) (H : Hp) (E : XK), Room k (A.deeper (envF ⟨d.name, d.qual, d.params, d.body, d.scope, [(("__class__" : Str), cc)], cd⟩ f s.heap.objs.size)) →
      SupF (ncx (L2.CX P w) P w c.K mg base N ⟨d.name, d.qual, d.params, d.body, d.scope, [(("__class__" : Str), cc)], cd⟩ f A outer s H E) f cd cc (He.ga c.K cn) →
      PSsc (ncx (L2.CX P w) P w c.K mg base N ⟨d.name, d.qual, d.params, d.body, d.scope, [(("__class__" : Str), cc)], cd⟩ f A outer s H E) (.func d.body (envF ⟨d.name, d.qual, d.params, d.body, d.scope, [(("__class__" : Str), cc)], cd⟩ f s.heap.objs.size)) d.body (liftS c (fun cls d _ H => E cls d H) body)) :
    Dq P w c mg base d (k + 1) ps (fnSM N.length cn body) := by
  obtain ⟨fd, F⟩ := S.defd i d hi
  refine ⟨fd, ⟨fun vs H Q E h => ?_, fun A outer s H args us vs Q E hr e0 hbd r hsp => ?_⟩, F⟩
  · obtain ⟨ds, M, θ, P, w, r, e, _⟩ := h
    rw [r.length, e]
  · obtain ⟨clo, oc, od, dV, kV, doc, pm, an, cdv, ct, osl, rfl, hclo, lk, hcd, k2, k3⟩ := F.ex
    have hsp0 := hsp
    obtain ⟨ds, M, θ, Pl, w0, rl, el, o⟩ := hsp
    have hl : vs.length = ps.length := by rw [rl.length, el]
    have hf0 : (selfB c.K d.at_ (He.ga c.K cn) file && ((PySem.W.clsIn c.K (He.ga c.K cn)).isSome && (decide (PySem.W.mroIn c.K (He.ga c.K cn) (.ref (He.ga c.K cn)) = some true) && He.eqO (PySem.W.nsIn c.K cStatics "thirdparty.any") (some none)))) = true := hf
    obtain ⟨f1, f2⟩ := He.ba hf0
    obtain ⟨f2, f3⟩ := He.ba f2
    obtain ⟨f3, f4⟩ := He.ba f3
    unfold selfB at f1
    rw [lk] at f1
    obtain ⟨cc, cd, rfl, rfl, fc, ff, fs⟩ := selfM_ok (clo := clo) (cdv := cdv) (params := d.params) f1
    obtain ⟨cl, cld, csl, lcc⟩ : ∃ cl cld csl, c.K.lookup cc = some ⟨cl, cld, .cell (some (.ref (He.ga c.K cn))), csl⟩ := by
      unfold cellB at fc
      split at fc
      · rename_i cl cld D csl q
        exact ⟨cl, cld, csl, by rw [q, of_decide_eq_true fc]⟩
      · cases fc
    obtain ⟨ccl, cdd, cvs, ccs, tf, lcd, hcv⟩ : ∃ ccl cdd vs ccs tf, c.K.lookup cd = some ⟨ccl, cdd, .fields vs, ccs⟩ ∧ vs[2]? = some (.str file tf) := by
      unfold fileB at ff
      split at ff
      · rename_i ccl cdd vs ccs q
        split at ff
        · rename_i z tf q2
          exact ⟨ccl, cdd, vs, ccs, tf, q, by rw [q2, of_decide_eq_true ff]⟩
        · cases ff
      · cases ff
    have KX : c.K.In s.heap := e0.mod.kin.keeps fun b o e => (e0.bs b o e).1
    have lim : s.heap.NoLimit := e0.mod.nolimit.keeps fun b o e => (e0.bs b o e).1
    have Hcc : H cc = none := (e0.bs cc _ (e0.mod.kin _ _ lcc)).2
    have one : ∀ {y : Str} {x : Addr}, ([(("__class__" : Str), cc)] : List (Str × Addr)).lookup y = some x → y = "__class__" ∧ x = cc := fun {y x} z => by
      by_cases q : y = "__class__"
      · subst q
        simp [List.lookup] at z
        exact ⟨rfl, z.symm⟩
      · have : (y == ("__class__" : Str)) = false := by simpa using q
        simp [List.lookup, this] at z
    have CA : CellsAt [(("__class__" : Str), cc)] [("__class__" : Str)] [some (.ref (He.ga c.K cn))] s.heap H := by
      refine ⟨rfl, fun y x z => ?_, fun y z x h1 h2 => (one h1).1.trans (one h2).1.symm, fun i y z => ?_⟩
      · obtain ⟨_, rfl⟩ := one z
        exact ⟨Hcc, _, _, KX _ _ lcc, rfl⟩
      · cases i with
        | succ i => simp at z
        | zero =>
          simp at z
          subst z
          refine ⟨cc, by simp [List.lookup], fun v hv => ?_⟩
          simp at hv
          subst hv
          exact ⟨.ref (He.ga c.K cn), rfl, _, KX _ _ lcc, rfl⟩
    refine codeAny_call_function hr.depth (KX _ _ lk) rfl SC.co SC.gen rfl (PySem.W.codeRec_of KX hcd) (hbd _ _ _ _ ?_)
    refine wpAny_newFunctionEnv SC.nocell (fun ⟨n, _⟩ hy => SC.par n (List.of_mem_zip hy).1) (fun h₁ hns hsb => ⟨lim.fresh _ hsb, ?_⟩) SC.kind
    show codeAny _ _ (.func d.body (envF ⟨d.name, d.qual, d.params, d.body, d.scope, [(("__class__" : Str), cc)], cd⟩ (adr c.K d.at_) s.heap.objs.size)) _ _
    refine PySem.ks_codeAny_funcAt ?_
    have kp : ∀ b o, s.heap.get? b = some o → h₁.get? b = some o := fun b o e => hsb.extBut b o (Nat.ne_of_lt (Heap.lt_size e)) (Heap.get?_push_of_some _ e)
    have SF : SupF (ncx (L2.CX P w) P w c.K mg base N ⟨d.name, d.qual, d.params, d.body, d.scope, [(("__class__" : Str), cc)], cd⟩ (adr c.K d.at_) A outer s H E) (adr c.K d.at_) cd cc (He.ga c.K cn) := {
      fn := let ⟨a, q1, q2⟩ := fs; ⟨_, _, _, _, a, lk, q1, q2⟩
      code := ⟨_, _, _, _, tf, lcd, by rw [hcv]; exact congrArg (fun z => some (Value.str z tf)) G.file.symm⟩
      cell := ⟨_, _, _, lcc⟩
      cls := Option.isSome_iff_exists.mp f2
      mro := of_decide_eq_true f3
      any := He.eqO_ok f4
      sup := hs
      top := G.top
      eF := rfl
      eC := rfl
      eK := by show ([(("__class__" : Str), cc)] : List (Str × Addr)).lookup ("__class__" : Str) = _; simp [List.lookup] }
    have I : Inv (ncx (L2.CX P w) P w c.K mg base N ⟨d.name, d.qual, d.params, d.body, d.scope, [(("__class__" : Str), cc)], cd⟩ (adr c.K d.at_) A outer s H E) [] (startF N vs [some (.ref (He.ga c.K cn))]) H { s with heap := h₁, toks := s.toks + (ps.zip us).length } := inv_startN SC hr.hd e0 hl r CA hns kp
    have body0 : liftS c (fun cls d _ H => E cls d H) body { nx := fun _ H' => Q .non H', rt := Q } (startF N vs [some (.ref (He.ga c.K cn))]) H := by
      refine ⟨_, M, θ, Pl, w0, er_startF (N := N) rl hC, ?_⟩
      have o' : OutE c θ Pl H Q (fun cv dd H' => E cv dd H') (endF (body (ds.map some ++ ([some (.cls cn)] ++ List.replicate (N.length - ds.length - 1) none)) M)) := o
      cases q : body (ds.map some ++ ([some (.cls cn)] ++ List.replicate (N.length - ds.length - 1) none)) M with
      | nx ρ M' => rw [q] at o'; exact fun σ' H' θ' P' w' s' _ => o' .non H' θ' P' w' s' rfl
      | rt d M' => rw [q] at o'; exact o'
      | err n fs ρ M' => rw [q] at o'; exact fun cv dd σ' H' θ' P' w' s' _ x => o' cv dd H' θ' P' w' s' x
      | bk ρ M' => rw [q] at o'; exact o'.elim
      | ct ρ M' => rw [q] at o'; exact o'.elim
      | stuck => rw [q] at o'; exact o'.elim
    refine PySem.ks_wpAt_mono ((hb _ cd cc A outer s H E (hr.deeper _) SF).run [] _ _ H _ I body0) (fun fl s' hs => ?_) fun e s' hs => hs
    have fin : ∀ {σ' : L2.St} {H' : Hp} {v : V} {u : Value}, Inv (ncx (L2.CX P w) P w c.K mg base N ⟨d.name, d.qual, d.params, d.body, d.scope, [(("__class__" : Str), cc)], cd⟩ (adr c.K d.at_) A outer s H E) [] σ' H' s' → L2.RelV v u → Q v H' → CE outer P w H s Q u s' :=
      fun {σ' H' v u} J rv q => ⟨v, H', J.os, J.bare, J.base, J.hok, rv, q⟩
    cases fl with
    | ret u =>
      obtain ⟨v, σ', H', J, rv, q⟩ := hs
      exact fin J rv q
    | next =>
      obtain ⟨σ', H', J, q⟩ := hs
      exact fin (v := V.non) (u := Value.none) J rfl q
    | brk =>
      obtain ⟨_, _, _, q⟩ := hs
      exact False.elim q
    | cont =>
      obtain ⟨_, _, _, q⟩ := hs
      exact False.elim q
end
end Q

set_option maxHeartbeats 1000000
namespace Q
open PySem
/-! ### plain lemmas of the readings -/
theorem atI_in {α : Type} {l : List α} {v : Int} (h0 : 0 ≤ v) (h : v < l.length) : ∃ d, d ∈ l ∧ L2.atI l v = some d := by
  unfold L2.atI L2.ixN
  rw [if_pos h0, if_pos h]
  have hx : v.toNat < l.length := by omega
  exact ⟨l[v.toNat], List.getElem_mem hx, List.getElem?_eq_getElem hx⟩
theorem atI_pos {α : Type} {l : List α} {v : Int} (h0 : 0 ≤ v) (h : v < l.length) : L2.atI l v = l[v.toNat]? := by
  unfold L2.atI L2.ixN
  rw [if_pos h0, if_pos h]; rfl
theorem atI_neg {α : Type} {l : List α} {v : Int} (h0 : v < 0) (h : 0 ≤ v + l.length) : L2.atI l v = l[(v + l.length).toNat]? := by
  unfold L2.atI L2.ixN
  rw [if_neg (by omega), if_pos (by omega)]; rfl
theorem small_of {n : Nat} (h : n ≤ 100000) : small n = true := by unfold small; simp; omega
theorem near_of {n : Int} (h : -1000000 ≤ n) (h2 : n ≤ 1000000) : near n = true := by unfold near; simp; omega
theorem cut_le (z : Str) (lo hi : Option Int) : (L2.cutS z lo hi).length ≤ z.length := by
  unfold L2.cutS
  simp only [Str.length, List.size_toArray, List.length_take, List.length_drop, Array.length_toList]
  omega
theorem add_int {i j : Int} {M : MS} : opAdd (.int i) (.int j) M = .ok (.int (i + j)) M := rfl
theorem sub_int {i j : Int} {M : MS} : opSub (.int i) (.int j) M = .ok (.int (i - j)) M := rfl
theorem add_str {a b : Str} {M : MS} (h : a.length + b.length ≤ 100000) : opAdd (.str a) (.str b) M = .ok (.str (a ++ b)) M := by
  simp only [opAdd, rGuard, small_of h, if_true]
theorem add_lst {a b : List D} {M : MS} (h : a.length + b.length ≤ 100000) : opAdd (.lst a) (.lst b) M = .ok (.lst (a ++ b)) M := by
  simp only [opAdd, ownL, lstOf, rGuard, small_of h, if_true]
theorem sl_str {z : Str} {lo hi : Option Int} {M : MS} (h : z.length ≤ 100000) : opSl (.str z) lo hi M = .ok (.str (L2.cutS z lo hi)) M := by
  simp only [opSl, rGuard, small_of h, if_true]
theorem len_str {s : Str} {M : MS} (hs : s.length ≤ 100000) : fLen [.str s] M = .ok (.int s.length) M := by
  simp only [fLen, rGuard, small_of hs, if_true]
theorem len_lst {s : List D} {M : MS} : fLen [.lst s] M = .ok (.int s.length) M := rfl
theorem len_tup {s : List D} {M : MS} : fLen [.tup s] M = .ok (.int s.length) M := rfl
theorem trim_app {M N : MS} {d : D} (h : below M.length d) : trim M (.ok d (M ++ N)) = .ok d M := by
  simp only [trim]
  by_cases q : (M ++ N).length = M.length
  · have : N = [] := by
      rw [List.length_append] at q
      exact List.length_eq_zero_iff.mp (by omega)
    subst this
    rw [if_pos q, List.append_nil]
  · have ht : Tr M (M ++ N) := ⟨fun l mo hl e => by rw [List.getElem?_append_left hl] at e; exact .inl e⟩
    rw [if_neg q, if_pos ⟨ht, h⟩]
    simp
theorem trim_to {M M' N : MS} {d : D} (hl : M'.length = M.length) (ho : ∀ (l : Nat) (mo : MO), l < M.length → M'[l]? = some mo → M[l]? = some mo ∨ belowM M.length mo) (h : below M.length d) : trim M (.ok d (M' ++ N)) = .ok d M' := by
  simp only [trim]
  by_cases q : (M' ++ N).length = M.length
  · have : N = [] := by
      rw [List.length_append] at q
      exact List.length_eq_zero_iff.mp (by omega)
    subst this
    rw [if_pos q, List.append_nil]
  · have ht : Tr M (M' ++ N) := ⟨fun l mo hl' e => by rw [List.getElem?_append_left (by omega)] at e; exact ho l mo hl' e⟩
    rw [if_neg q, if_pos ⟨ht, h⟩]
    simp [← hl]
theorem trim_set {M N : MS} {d : D} {l : Nat} {mo : MO} (hm : belowM M.length mo) (h : below M.length d) : trim M (.ok d (M.set l mo ++ N)) = .ok d (M.set l mo) :=
  trim_to (by simp) (fun k mo' hk e => by
    by_cases q : l = k
    · subst q
      rw [List.getElem?_set_self hk] at e
      cases e; exact .inr hm
    · rw [List.getElem?_set_ne q] at e; exact .inl e) h
theorem trim_err {M N : MS} {n : Str} {fs : List (Str × D)} (h : belowF M.length fs) : trim M (.err n fs (M ++ N)) = .err n fs M := by
  simp only [trim]
  by_cases q : (M ++ N).length = M.length
  · have : N = [] := by
      rw [List.length_append] at q
      exact List.length_eq_zero_iff.mp (by omega)
    subst this
    rw [if_pos q, List.append_nil]
  · have ht : Tr M (M ++ N) := ⟨fun l mo hl e => by rw [List.getElem?_append_left hl] at e; exact .inl e⟩
    rw [if_neg q, if_pos ⟨ht, h⟩]
    simp
theorem trim_nil {b : Bool} {M : MS} : trim [] (.ok (.bl b) M) = .ok (.bl b) (M.take 0) := by
  simp only [trim]
  by_cases q : M.length = ([] : MS).length
  · rw [if_pos q, List.length_eq_zero_iff.mp q]; rfl
  · rw [if_neg q, if_pos ⟨⟨fun l mo hl _ => absurd hl (Nat.not_lt_zero l)⟩, by simp [below]⟩]
    rfl
/-! data without references -/
mutual
def pureD : D → Bool
  | .ref _ => false
  | .exn _ _ => false
  | .lam _ _ => false
  | .lamI _ => false
  | .tup l => pureL l
  | .lst l => pureL l
  | .scr l => pureL l
  | .obj _ fs => pureF fs
  | .dic _ kvs => pureK kvs
  | _ => true
def pureL : List D → Bool
  | [] => true
  | d :: ds => pureD d && pureL ds
def pureF : List (Str × D) → Bool
  | [] => true
  | (_, d) :: ds => pureD d && pureF ds
def pureK : List (List L2.Key × D) → Bool
  | [] => true
  | (_, d) :: ds => pureD d && pureK ds
end
mutual
theorem pureD.below {n : Nat} : ∀ {d : D}, pureD d = true → below n d
  | .non, _ => trivial
  | .bl _, _ => trivial
  | .int _, _ => trivial
  | .str _, _ => trivial
  | .ty _, _ => trivial
  | .cls _, _ => trivial
  | .ref _, h => nomatch h
  | .tup _, h => pureL.below h
  | .lst _, h => pureL.below h
  | .scr _, h => pureL.below h
  | .obj _ _, h => pureF.below h
  | .exn _ _, h => nomatch h
  | .lam _ _, h => nomatch h
  | .lamI _, h => nomatch h
  | .dic _ _, h => pureK.below h
theorem pureL.below {n : Nat} : ∀ {d : List D}, pureL d = true → belowL n d
  | [], _ => trivial
  | _ :: _, h => ⟨pureD.below (Bool.and_eq_true_iff.mp h).1, pureL.below (Bool.and_eq_true_iff.mp h).2⟩
theorem pureF.below {n : Nat} : ∀ {d : List (Str × D)}, pureF d = true → belowF n d
  | [], _ => trivial
  | (_, _) :: _, h => ⟨pureD.below (Bool.and_eq_true_iff.mp h).1, pureF.below (Bool.and_eq_true_iff.mp h).2⟩
theorem pureK.below {n : Nat} : ∀ {d : List (List L2.Key × D)}, pureK d = true → belowK n d
  | [], _ => trivial
  | (_, _) :: _, h => ⟨pureD.below (Bool.and_eq_true_iff.mp h).1, pureK.below (Bool.and_eq_true_iff.mp h).2⟩
end
mutual
theorem pureD.calm : ∀ {d : D}, pureD d = true → calmD d
  | .non, _ => trivial
  | .bl _, _ => trivial
  | .int _, _ => trivial
  | .str _, _ => trivial
  | .ty _, _ => trivial
  | .cls _, _ => trivial
  | .ref _, h => nomatch h
  | .tup _, h => pureL.calm h
  | .lst _, h => pureL.calm h
  | .scr _, h => pureL.calm h
  | .obj _ _, h => pureF.calm h
  | .exn _ _, h => nomatch h
  | .lam _ _, h => nomatch h
  | .lamI _, h => nomatch h
  | .dic _ _, h => pureK.calm h
theorem pureL.calm : ∀ {d : List D}, pureL d = true → calmL d
  | [], _ => trivial
  | _ :: _, h => ⟨pureD.calm (Bool.and_eq_true_iff.mp h).1, pureL.calm (Bool.and_eq_true_iff.mp h).2⟩
theorem pureF.calm : ∀ {d : List (Str × D)}, pureF d = true → calmF d
  | [], _ => trivial
  | (_, _) :: _, h => ⟨pureD.calm (Bool.and_eq_true_iff.mp h).1, pureF.calm (Bool.and_eq_true_iff.mp h).2⟩
theorem pureK.calm : ∀ {d : List (List L2.Key × D)}, pureK d = true → calmK d
  | [], _ => trivial
  | (_, _) :: _, h => ⟨pureD.calm (Bool.and_eq_true_iff.mp h).1, pureK.calm (Bool.and_eq_true_iff.mp h).2⟩
end
theorem pureL_all : ∀ {l : List D}, (∀ d ∈ l, pureD d = true) → pureL l = true
  | [], _ => rfl
  | d :: ds, h => Bool.and_eq_true_iff.mpr ⟨h d (.head _), pureL_all fun x m => h x (.tail _ m)⟩
theorem pureL_map {α : Type} {f : α → D} (h : ∀ a, pureD (f a) = true) (l : List α) : pureL (l.map f) = true := pureL_all fun d m => by
  obtain ⟨a, _, rfl⟩ := List.mem_map.mp m
  exact h a
theorem calm_app {M N : MS} (h : calmM M) (k : calmM N) : calmM (M ++ N) := fun mo m => (List.mem_append.mp m).elim (h mo) (k mo)
theorem calm_set {M : MS} {l : Nat} {mo : MO} (h : calmM M) (k : calmO mo) : calmM (M.set l mo) := fun x m => (List.mem_or_eq_of_mem_set m).elim (h x) fun e => e ▸ k
theorem calm_dead : calmM [.dead] := fun mo m => by
  have : mo = .dead := by simpa using m
  subst this; trivial
theorem calm_nil : calmM [] := fun mo m => nomatch m
theorem rAsk_eq {lr : Nat → Fn} {a : Rn D} {ρ : Ev} {M M1 : MS} {k : Nat} {ds : List D} (ha : a ρ M = .ok (.lam k ds) M1) (hv : calmL ds) (hM : calmM M1) : rAsk lr a ρ M = lr k ds M1 := by
  unfold rAsk
  rw [ha]
  exact if_pos ⟨hv, hM⟩
theorem coolRes_ok {d : D} {M : MS} (h : calmD d) (hM : calmM M) : coolRes (.ok d M) = .ok d M := if_pos ⟨h, hM⟩
theorem rCallL_eq {js : Js} {run : Fn} {a : Rn (List D)} {ρ : Ev} {M M1 M2 : MS} {d r : D} {l : Bool × List (Nat × List D)} (ha : a ρ M = .ok [d] M1) (hc : closeD js ρ d = some l) (hM : calmM M1) (hl : ∀ p ∈ l.2, calmL p.2) (hr : run [closedD l] M1 = .ok r M2) (cr : calmD r) (cM : calmM M2) : rCallL js run a ρ M = .ok r M2 := by
  unfold rCallL
  rw [ha]
  simp only [Res.bind, hc]
  rw [if_pos ⟨hM, hl⟩, hr, coolRes_ok cr cM]
end Q

namespace Q
open PySem
/-! ### one step after another -/
theorem th_nx {a b : Sn} {ρ ρ' : Ev} {M M' : MS} (h : a ρ M = .nx ρ' M') : rThen a b ρ M = b ρ' M' := by unfold rThen; rw [h]
theorem th_rt {a b : Sn} {ρ : Ev} {M M' : MS} {d : D} (h : a ρ M = .rt d M') : rThen a b ρ M = .rt d M' := by unfold rThen; rw [h]
theorem asg_ok {a : Rn D} {bd : D → Ev → Option Ev} {ρ ρ' : Ev} {M M' : MS} {d : D} (h : a ρ M = .ok d M') (k : bd d ρ = some ρ') : rAsg a bd ρ M = .nx ρ' M' := by unfold rAsg; rw [h]; simp only [bindS, k]
theorem ret_ok {a : Rn D} {ρ : Ev} {M M' : MS} {d : D} (h : a ρ M = .ok d M') : rRet a ρ M = .rt d M' := by unfold rRet; rw [h]; rfl
theorem drop_ok {a : Rn D} {ρ : Ev} {M M' : MS} {d : D} (h : a ρ M = .ok d M') : rDrop a ρ M = .nx ρ M' := by unfold rDrop; rw [h]; rfl
theorem for_ok {it : Rn (List D)} {bd : D → Ev → Option Ev} {body : Sn} {ρ : Ev} {M M' : MS} {ds : List D} (h : it ρ M = .ok ds M') : rFor it bd body ρ M = loopF bd body ds ρ M' := by unfold rFor; rw [h]; rfl
theorem if_t {t : Rn Bool} {a b : Sn} {ρ : Ev} {M M' : MS} (h : t ρ M = .ok true M') : rIfS t a b ρ M = a ρ M' := by unfold rIfS; rw [h]; rfl
theorem if_f {t : Rn Bool} {a b : Sn} {ρ : Ev} {M M' : MS} (h : t ρ M = .ok false M') : rIfS t a b ρ M = b ρ M' := by unfold rIfS; rw [h]; rfl
theorem loop_nx {bd : D → Ev → Option Ev} {body : Sn} {d : D} {ds : List D} {ρ ρ1 ρ2 : Ev} {M M2 : MS} (k : bd d ρ = some ρ1) (h : body ρ1 M = .nx ρ2 M2) : loopF bd body (d :: ds) ρ M = loopF bd body ds ρ2 M2 := by
  simp only [loopF, k, h]
theorem cons_ok {a : Rn D} {b : Rn (List D)} {ρ : Ev} {M M1 M2 : MS} {d : D} {ds : List D} (h : a ρ M = .ok d M1) (k : b ρ M1 = .ok ds M2) : rCons a b ρ M = .ok (d :: ds) M2 := by
  unfold rCons; rw [h]; simp only [Res.bind]; rw [k]
theorem nil_ok {ρ : Ev} {M : MS} : rNil ρ M = .ok [] M := rfl
theorem lst_ok {a : Rn (List D)} {ρ : Ev} {M M1 : MS} {ds : List D} (h : a ρ M = .ok ds M1) (k : small ds.length = true := by rfl) : rLst a ρ M = .ok (.lst ds) M1 := by unfold rLst; rw [h]; simp only [Res.bind, rGuard, k, if_true]
theorem tup_ok {a : Rn (List D)} {ρ : Ev} {M M1 : MS} {ds : List D} (h : a ρ M = .ok ds M1) (k : small ds.length = true := by rfl) : rTup a ρ M = .ok (.tup ds) M1 := by unfold rTup; rw [h]; simp only [Res.bind, rGuard, k, if_true]
theorem call_ok {n : Nat} {run : Fn} {es : List D} {a : Rn (List D)} {ρ : Ev} {M M1 : MS} {ds : List D} (h : a ρ M = .ok ds M1) (k : (ds ++ es).length = n := by rfl) : rCall n run es a ρ M = run (ds ++ es) M1 := by unfold rCall; rw [h]; simp only [Res.bind, rGuard, k, decide_true, if_true]
theorem par_ok {i j : Nat} {a : Rn (List D)} {ρ : Ev} {M M1 : MS} {d e : D} (h : a ρ M = .ok [d, e] M1) : rPar i j a ρ M = .nx ((ρ.set i (some d)).set j (some e)) M1 := by unfold rPar; rw [h]; rfl
theorem v_ok {i : Nat} {ρ : Ev} {M : MS} {d : D} (h : ρ[i]? = some (some d)) : rV i ρ M = .ok d M := by unfold rV; rw [h]
theorem op2_ok {op : D → D → MS → Res D} {a b : Rn D} {ρ : Ev} {M M1 M2 : MS} {x y : D} (h : a ρ M = .ok x M1) (k : b ρ M1 = .ok y M2) : rOp2 op a b ρ M = op x y M2 := by
  unfold rOp2; rw [h]; simp only [Res.bind]; rw [k]
theorem b_ok {a : Rn D} {ρ : Ev} {M M1 : MS} {k : Bool} (h : a ρ M = .ok (.bl k) M1) : rB a ρ M = .ok k M1 := by unfold rB; rw [h]; rfl
theorem endF_rt {d : D} {M : MS} : endF (.rt d M) = .ok d M := rfl
end Q

namespace Q
open PySem PySem.Spec PyProof.Rows L2
/-! ### x.split(sep) -/
def fSplit (d : D) : Fn := fun ds M => match d, ds with
  | .str a, [.str b] => rGuard (decide ((b.length == 0) = false ∧ a.length ≤ 100000)) (.ok (.lst ((Txt.split a b).map D.str)) M)
  | _, _ => .stuck
section
variable {c : Cl}
theorem strs_rel {θ : List Addr} {P : Hp} : ∀ l : List Str, VRL c θ P (l.map D.str) (l.map V.str)
  | [] => rfl
  | s :: l => ⟨_, _, rfl, rfl, strs_rel l⟩
theorem m_split : MtD c (fun x xs H Q => ∃ a b, x = .str a ∧ xs = [.str b] ∧ (b.length == 0) = false ∧ a.length + 2 ≤ sizeLine ∧ rNewStrs (Txt.split a b) H Q) fSplit := fun θ P H M d x ds vs Q Wx w rd r o => by
  match d, ds, o with
  | .str a, [.str b], o =>
    obtain ⟨g, o⟩ := Out.guard (R := RV c) o
    obtain ⟨g1, g2⟩ := of_decide_eq_true g
    cases rd
    obtain ⟨v, rfl, r1⟩ := r.inv1
    cases r1
    exact ⟨a, b, rfl, rfl, g1, by rw [sizeLine_eq]; omega, fun p hp => new_lst w hp (strs_rel _) o⟩
end
/-! ### C.m(..), m a static method of C -/
def statB (K : PySem.W.Frag) (x m : Str) : Bool := PySem.W.readsIn K (He.ga K x) (.type "type") && (He.eqO (PySem.W.specialIn K (.ref (He.ga K x)) "__getattribute__") (some (some (.builtin "type.__getattribute__"))) &&
  ((match PySem.W.findCls K (.ref (He.ga K x)) (.type "type") m with
    | some (.get (.builtin n) (.ref p) .none (.ref C)) => decide (n = "staticmethod.__get__" ∧ p = He.ma K (He.ga K x) m ∧ C = He.ga K x)
    | _ => false) && (match PySem.W.recIn K (He.ma K (He.ga K x) m) "staticmethod" with
    | some (.ref _ :: _) => true
    | _ => false)))
structure SMet (K : PySem.W.Frag) (C : Addr) (m : Str) (g : Addr) : Prop where
  rd : PySem.W.readsIn K C (.type "type") = true
  ga : PySem.W.specialIn K (.ref C) "__getattribute__" = some (some (.builtin "type.__getattribute__"))
  at_ : ∃ p, PySem.W.findCls K (.ref C) (.type "type") m = some (.get (.builtin "staticmethod.__get__") (.ref p) .none (.ref C)) ∧ ∃ rest, PySem.W.recIn K p "staticmethod" = some (.ref g :: rest)
theorem smet_of {K : PySem.W.Frag} {x m : Str} (h : statB K x m = true) : SMet K (He.ga K x) m (adr K (.stat x m)) := by
  obtain ⟨h1, h2⟩ := He.ba h
  obtain ⟨h2, h3⟩ := He.ba h2
  obtain ⟨h3, h4⟩ := He.ba h3
  refine ⟨h1, He.eqO_ok h2, ?_⟩
  split at h3
  · rename_i n p C e
    obtain ⟨rfl, rfl, rfl⟩ := of_decide_eq_true h3
    refine ⟨_, e, ?_⟩
    split at h4
    · rename_i g rest e2; exact ⟨rest, by simp only [adr, e2]⟩
    · cases h4
  · cases h3
section
variable {X : Cx} {c : Cl} {W : WX} {E : XK} {k n np : Nat} {C f : Addr} {fd : FuncData} {ps ks : List Str} {ix : List Ar} {ds : List Value} {dvs : List V} {es : List D} {run : Fn} {x m : Str} {p ap pos : Pos} {e : Expr} {args : List Expr} {kws : List Keyword} {ra rk : Rn (List D)}
theorem getsm_ok {pins : List (Addr × Obj)} {σ : L2.St} {H : Hp} {s : Shared} {A : Around} {E : Value → Shared → Prop} {pl : Sem Bool} {Q : Value × List Value → Shared → Prop} (I : Inv X pins σ H s) (r : SMet X.K C m f) (h : ∀ s', Inv X pins σ H s' → Q (.ref f, []) s') :
    wpAny (model X.prog X.w) A (getMethod (.ref C) m pl) Q E s := by
  obtain ⟨p, e, rest, hp⟩ := r.at_
  refine PySem.W.method_cls I.kIn r.ga (PySem.W.cls_bind I.kIn r.rd e ?_)
  exact wpAny_call (PySem.W.sm_get (s := { s with toks := s.toks + 1 }) I.kIn hp (PySem.W.handed_on rfl (h _ (I.tok _))))
theorem s_sm {pl : Sem Bool} (md : Md X c W E) (F : FnOk X.prog X.w X.K X.mg X.base (L2.CX X.prog X.w) k f fd ps (spF c n run)) (hr : Room k X.A) (hm : X.mg x = some (.ref C)) (r : SMet X.K C m f) (hk : PySem.W.keepIn X.K (.ref f) = true) (hb : Binds X.K fd ps []) (ha : PA X (e :: args) (liftA c W ra))
    (hg : Gl X x := by rfl) (hdb : (x == ("__debug__" : Str)) = false := by decide) (he : starEach (e :: args) X.env = (false, eval e X.env) :: starEach args X.env := by rfl) (hpl : (backTo pos (starEach args X.env)).any (·.1) = false := by rfl)
    (ht : eval (.Call (.Attribute (.Name x p) m ap) (e :: args) [] pos) X.env = (do
      let ov ← eval (.Name x p) X.env
      standAt ap.atName
      let (f, first) ← holding [ov] (getMethod ov m pl)
      callWith pos f first (backTo pos (starEach (e :: args) X.env)) (backToKw pos (keywordEach [] X.env))) := by rfl) :
    PE X (.Call (.Attribute (.Name x p) m ap) (e :: args) [] pos) (liftE c W (rCall n run [] ra)) := by
  refine ⟨fun pins s σ H Q I h => ?_⟩
  have h' := call_read md (es := []) (dvs := []) (fun _ _ => rfl) h
  refine PySem.W.methodCall_KW (pl := pl) (ld_glob I hg hm (getsm_ok I r fun s2 I2 => ?_) hdb) ht
  refine PySem.W.callWith_K (h₀ := X.base) I2.ok.mod.kin hk (thn (ha.run pos pins s2 σ H _ I2 h') fun us s1 ⟨vs, H1, I1, rv, q⟩ => ⟨I1.kIn, ?_⟩) he hpl
  exact run_fn F hr hb .nil md.pass I1 rv q
theorem s_smK {pl : Sem Bool} (md : Md X c W E) (F : FnOk X.prog X.w X.K X.mg X.base (L2.CX X.prog X.w) k f fd ps (spF c n run)) (hr : Room k X.A) (hm : X.mg x = some (.ref C)) (r : SMet X.K C m f) (hk : PySem.W.keepIn X.K (.ref f) = true) (B : Bnd X.K fd ps 0 ks ix ds) (hd : Vals dvs ds) (he0 : ∀ θ P, VRL c θ P es dvs)
    (hkw : PK X kws (liftA c W rk)) (hg : Gl X x := by rfl) (hdb : (x == ("__debug__" : Str)) = false := by decide) (hall : (backToKw pos (keywordEach kws X.env)).all (·.1.isSome) = true := by rfl) (hks : (backToKw pos (keywordEach kws X.env)).filterMap (·.1) = ks := by rfl)
    (hpl : ((backTo pos (starEach [] X.env)).any (·.1) || (backToKw pos (keywordEach kws X.env)).any (·.1.isNone)) = false := by rfl)
    (ht : eval (.Call (.Attribute (.Name x p) m ap) [] kws pos) X.env = (do
      let ov ← eval (.Name x p) X.env
      standAt ap.atName
      let (f, first) ← holding [ov] (getMethod ov m pl)
      callWith pos f first (backTo pos (starEach [] X.env)) (backToKw pos (keywordEach kws X.env))) := by rfl) :
    PE X (.Call (.Attribute (.Name x p) m ap) [] kws pos) (liftE c W (rArgs 0 ks.length n run ix es rNil rk)) := by
  refine ⟨fun pins s σ H Q I ⟨ρ, M, θ, P, w, er, o⟩ => ?_⟩
  refine PySem.W.methodCall_KW (pl := pl) (ld_glob I hg hm (getsm_ok I r fun s0 I0 => ?_) hdb) ht
  refine PySem.W.callWith_KW0 (h₀ := X.base) I0.ok.mod.kin hk hall (thn (hkw.run pos pins s0 σ H (fun zs H2 => zs.length = ks.length ∧ spF c n run (arr ix [] zs dvs) H2 Q E) I0 ⟨ρ, M, θ, P, w, er, ?_⟩) fun ws s2 ⟨zs, H2, I2, rz, l2, q2⟩ => ⟨I2.kIn, ?_⟩) hpl
  · refine Out.bind (R := RL c) (show OutE c θ P H Q _ ((rk ρ M).bind fun zs M2 => rGuard (decide (0 = 0 ∧ zs.length = ks.length ∧ (arr ix [] zs es).length = n)) (run (arr ix [] zs es) M2)) from o) fun zd M2 zs H2 θ2 P2 w2 s2 r2 o2 => ?_
    obtain ⟨g, o2⟩ := Out.guard (R := RV c) o2
    obtain ⟨g1, g2, g3⟩ := of_decide_eq_true g
    exact ⟨by rw [r2.length]; exact g2, sp_now md.we w2 (vrl_arr (as := []) (vs := []) rfl r2 (he0 θ2 P2) ix) g3 o2⟩
  · rw [hks]
    exact call_core md F hr B hd I2 .nil rz rfl l2 q2
variable {d : DefQ}
theorem s_sd {pl : Sem Bool} (md : Md X c W E) (F : Dq X.prog X.w c X.mg X.base d k ps run) (hr : Room k X.A) (hm : X.mg x = some (.ref (He.ga c.K x))) (r : statB c.K x m = true) (ea : d.at_ = .stat x m) (hd : d.dfl = [])
    (hb : ∀ (clo : List (Str × Addr)) (kV doc pm : Value) (an : Option Addr) (cdv ct : Value) (us : List Value), us.length = ps.length → bindArgs (PySem.W.fnX d.name d.qual d.params d.body d.scope clo .none kV doc pm an cdv ct) ⟨us, []⟩ = pure (ps.zip us)) (ha : PA X (e :: args) (liftA c W ra))
    (hg : Gl X x := by rfl) (hdb : (x == ("__debug__" : Str)) = false := by decide) (he : starEach (e :: args) X.env = (false, eval e X.env) :: starEach args X.env := by rfl) (hpl : (backTo pos (starEach args X.env)).any (·.1) = false := by rfl)
    (ht : eval (.Call (.Attribute (.Name x p) m ap) (e :: args) [] pos) X.env = (do
      let ov ← eval (.Name x p) X.env
      standAt ap.atName
      let (f, first) ← holding [ov] (getMethod ov m pl)
      callWith pos f first (backTo pos (starEach (e :: args) X.env)) (backToKw pos (keywordEach [] X.env))) := by rfl) :
    PE X (.Call (.Attribute (.Name x p) m ap) (e :: args) [] pos) (liftE c W (rCall ps.length run [] ra)) := by
  obtain ⟨fd, h1, h2⟩ := F.ex
  have r2 := smet_of r
  rw [← ea] at r2
  rw [md.k] at h1 h2 hm r2
  exact s_sm md h1 hr hm r2 h2.kp (h2.bindsN hd hb) ha hg hdb he hpl ht
theorem s_sdK0 {pl : Sem Bool} {es : List D} (md : Md X c W E) (F : Dq X.prog X.w c X.mg X.base d k ps run) (hr : Room k X.A) (hm : X.mg x = some (.ref (He.ga c.K x))) (r : statB c.K x m = true) (ea : d.at_ = .stat x m)
    (B : ∀ fd, FunQ c.K d (adr c.K d.at_) fd → ∃ (dv : List Value) (dvs : List V), Vals dvs dv ∧ (∀ θ P, VRL c θ P es dvs) ∧ Bnd c.K fd ps 0 ks ix dv) (hkw : PK X kws (liftA c W rk))
    (hg : Gl X x := by rfl) (hdb : (x == ("__debug__" : Str)) = false := by decide) (hall : (backToKw pos (keywordEach kws X.env)).all (·.1.isSome) = true := by rfl) (hks : (backToKw pos (keywordEach kws X.env)).filterMap (·.1) = ks := by rfl)
    (hpl : ((backTo pos (starEach [] X.env)).any (·.1) || (backToKw pos (keywordEach kws X.env)).any (·.1.isNone)) = false := by rfl)
    (ht : eval (.Call (.Attribute (.Name x p) m ap) [] kws pos) X.env = (do
      let ov ← eval (.Name x p) X.env
      standAt ap.atName
      let (f, first) ← holding [ov] (getMethod ov m pl)
      callWith pos f first (backTo pos (starEach [] X.env)) (backToKw pos (keywordEach kws X.env))) := by rfl) :
    PE X (.Call (.Attribute (.Name x p) m ap) [] kws pos) (liftE c W (rArgs 0 ks.length ps.length run ix es rNil rk)) := by
  obtain ⟨fd, h1, h2⟩ := F.ex
  obtain ⟨dv, dvs, b1, b2, b3⟩ := B fd h2
  have r2 := smet_of r
  rw [← ea] at r2
  rw [md.k] at h1 h2 hm b3 r2
  exact s_smK md h1 hr hm r2 h2.kp b3 b1 b2 hkw hg hdb hall hks hpl ht
end
end Q

set_option maxHeartbeats 2000000
namespace PySem
namespace HandSPX
open Builtin Builtin.ObjectAttr
section
variable {M : Model} {A : Around} {E : Value → Shared → Prop} {h : Heap} {g : Array GenState} {d : Drawn} {t : Nat} {os : OsState}
variable {nm q : Str} {C N : Addr} {bs bm bmB : List Value} {hdct : Bool} {sn : List Str} {sub : List Value} {ab : Bool} {col : Option Bool} {dd : Option Addr} {k0 k1 k2 k3 k5 : Option Value} {B newId initId : String} {kw : List (Str × Value)}
theorem x_new (F : ExcBaseFacts B newId initId bmB) (hT : ∀ X : String, bm.contains (.type X) = bmB.contains (.type X)) {Q : Unit → Shared → Prop}
    (hC : h.get? C = some (excClassObj nm q C N bs bm hdct sn sub ab col dd k0 k1 k2 k3 k5 newId)) (hq : Q () ⟨h, g, d, t, os⟩) : wpAny M A (checkBuiltinCall newId ⟨[.ref C], kw⟩) Q E ⟨h, g, d, t, os⟩ := by
  have c1 : (Value.ref C :: bm).contains (.type B) = true := by rw [List.contains_cons, hT, F.hasB, Bool.or_true]
  have s1 := F.noStar
  simp only [checkBuiltinCall, F.newKind, F.newSplit, F.newRow]
  repeat (first | refine wpAny_loadPart_at hC ?_ | (refine wpAny_isSubtype_exc hC ?_; rw [c1]) | refine wpAny_staticBase_exc hC ?_ | refine wpAny_madeBy_exc hC ?_ | simp only [bne_self_eq_false, Bool.false_eq_true, if_false] | wp_step)
  exact hq
end
section
variable {prog : Program} {w : World} {A : Around} {E : Value → Shared → Prop} {R : Result → Shared → Prop} {h : Heap} {g : Array GenState} {d : Drawn} {t : Nat} {os : OsState}
variable {nm q : Str} {C N : Addr} {bs bm bmB : List Value} {hdct : Bool} {sn : List Str} {sub : List Value} {ab : Bool} {col : Option Bool} {dd : Option Addr} {k0 k1 k2 k3 k5 : Option Value} {B newId initId : String} {kw : List (Str × Value)}
theorem x_new2 (F : ExcBaseFacts B newId initId bmB) (hT : ∀ X : String, bm.contains (.type X) = bmB.contains (.type X))
    (hC : h.get? C = some (excClassObj nm q C N bs bm hdct sn sub ab col dd k0 k1 k2 k3 k5 newId))
    (hq : R (.ok (.ret (.ref (h.objs.size + 1)))) ⟨(h.push (W.kdv_tup [])).push (excO C h.objs.size), g, d, t, os⟩) :
    codeAny (model prog w) A (.builtin newId ⟨[.ref C], kw⟩) R ⟨h, g, d, t, os⟩ := by
  have fe := F.ends
  have c1 : (Value.ref C :: bm).contains (.type B) = true := by rw [List.contains_cons, hT, F.hasB, Bool.or_true]
  have c2 : (Value.ref C :: bm).contains (.type "AttributeError") = false := by rw [List.contains_cons, hT, F.noAttr]; rfl
  have c3 : (Value.ref C :: bm).contains (.type "NameError") = false := by rw [List.contains_cons, hT, F.noName]; rfl
  refine codeAny_builtinAt F.entry ?_
  unfold Builtin.«BaseException.__new__»
  refine wpAt_bind ?_
  show wpAt _ _ _ (stack >>= _) _ _ _
  refine wpAt_bind (wpAt_stack fun p below => wpAt_of_wpAny ?_)
  wp_walk
  refine wpAt_of_wpAny ?_
  rw [F.owner]
  repeat (first | with_reducible refine wpAny_madeHere_exc F.canon hC ?_ | with_reducible refine wpAny_loadPart_at hC ?_ | (with_reducible refine wpAny_isSubtype_exc hC ?_; first | rw [c1] | rw [c2] | rw [c3]) | wp_step)
  show R _ _
  rw [Heap.size_push]
  exact hq
theorem x_type (F : ExcBaseFacts B newId initId bmB) (hT : ∀ X : String, bm.contains (.type X) = bmB.contains (.type X)) {fI : Addr} {Q : Fin → Shared → Prop}
    (hC : h.get? C = some (excClassObj nm q C N bs bm hdct sn sub ab col dd k0 k1 k2 k3 k5 newId))
    (hi : W.Looks (model prog w) h (typeLookup (.ref C) "__init__") (some (.ref fI))) (hb : ∀ self, W.Looks (model prog w) h (bindSpecial (.ref fI) self) (.ref fI, [self]))
    (hq : codeAny (model prog w) A (.call (.ref fI) ⟨[.ref (h.objs.size + 1)], kw⟩)
      (fun r s' => match r with | .ok (.ret v) => v = .none ∧ Q (.done (.ret (.ref (h.objs.size + 1)))) s' | .ok _ => False | .error e => E e s')
      ⟨(h.push (W.kdv_tup [])).push (excO C h.objs.size), g, d, t, os⟩) :
    wpAny (model prog w) A (Builtin.«type.__call__» ⟨[.ref C], kw⟩) Q E ⟨h, g, d, t, os⟩ := by
  repeat (first | with_reducible refine wpAny_loadPart_at hC ?_ | with_reducible refine wpAny_madeBy_exc hC ?_ | wp_step)
  refine codeAny_call_builtin_code (Code.quiet_builtin _ F.quiet) (x_new F hT hC ?_)
  refine x_new2 F hT hC ?_
  show wpAny _ _ _ _ _ _
  have up : ∀ b o, h.get? b = some o → ((h.push (W.kdv_tup [])).push (excO C h.objs.size)).get? b = some o := fun b o e => Heap.get?_push_of_some _ (Heap.get?_push_of_some _ e)
  have hC1 := up _ _ hC
  have he : ((h.push (W.kdv_tup [])).push (excO C h.objs.size)).get? (h.objs.size + 1) = some (excO C h.objs.size) := by heap_get
  have cc : (Value.ref C :: bm).contains (.ref C) = true := by simp
  have l1 := hi.keeps up
  have l2 := (hb (.ref (h.objs.size + 1))).keeps up
  unfold isInstance
  repeat (first | with_reducible refine wpAny_loadPart_at he ?_ | (with_reducible refine wpAny_isSubtype_exc hC1 ?_; rw [cc]) | wp_step)
  show wpAny _ _ (typeLookup (.ref C) _) _ _ _
  refine l1.at ?_
  refine wpAny_holding (wpAny_bind (l2.at ?_))
  refine wpAny_bind (wpAny_call (codeAny_mono hq fun r s' z => ?_))
  rcases r with e | (v | _ | _ | _) <;> first | exact z | exact z.elim | skip
  obtain ⟨rfl, z⟩ := z
  first
    | exact wpAny_pure (wpAny_pure z)
    | (wp_walk; exact z)
theorem x_tcheck {M : Model} {Q : Unit → Shared → Prop} (hC : h.get? C = some (excClassObj nm q C N bs bm hdct sn sub ab col dd k0 k1 k2 k3 k5 newId))
    (hq : Q () ⟨h, g, d, t, os⟩) : wpAny M A (checkBuiltinCall "type.__call__" ⟨[.ref C], kw⟩) Q E ⟨h, g, d, t, os⟩ := by
  have f3 := tc_sub
  have ty : (⟨h, g, d, t, os⟩ : Shared).TypeIs (.ref C) "type" := ⟨_, hC, rfl⟩
  simp only [checkBuiltinCall, tc_kind, tc_split]
  repeat (any_goals (first | assumption | with_reducible refine wpAny_loadPart_at hC ?_ | with_reducible refine wpAny_onRaise ?_ | with_reducible refine wpAny_map ?_ | wp_step))
theorem x_call (F : ExcBaseFacts B newId initId bmB) (hT : ∀ X : String, bm.contains (.type X) = bmB.contains (.type X)) {fI : Addr}
    (hC : h.get? C = some (excClassObj nm q C N bs bm hdct sn sub ab col dd k0 k1 k2 k3 k5 newId))
    (hi : W.Looks (model prog w) h (typeLookup (.ref C) "__init__") (some (.ref fI))) (hb : ∀ self, W.Looks (model prog w) h (bindSpecial (.ref fI) self) (.ref fI, [self]))
    (hq : codeAny (model prog w) (A.under (.builtin "type.__call__" ⟨[.ref C], kw⟩)) (.call (.ref fI) ⟨[.ref (h.objs.size + 1)], kw⟩) (W.InitBack (h.objs.size + 1) R)
      ⟨(h.push (W.kdv_tup [])).push (excO C h.objs.size), g, d, t, os⟩) :
    codeAny (model prog w) A (.call (.ref C) ⟨[], kw⟩) R ⟨h, g, d, t, os⟩ := by
  have f1 := tc_lookup
  have f2 := tc_bind (.ref C)
  have ty : (⟨h, g, d, t, os⟩ : Shared).TypeIs (.ref C) "type" := ⟨_, hC, rfl⟩
  refine codeAny_of_tree ?_
  show wpAny _ _ (callAny (.ref C) _) _ _ _
  repeat (any_goals (first | assumption | with_reducible refine wpAny_loadPart_at hC ?_ | wp_step))
  refine ⟨rfl, ?_⟩
  refine codeAny_call_builtin_at (Code.quiet_builtin _ (by decide +kernel)) entry_typeCall (x_tcheck hC (x_type F hT hC hi hb ?_))
  refine codeAny_mono hq fun r s' z => ?_
  rcases r with e | (v | _ | _ | _) <;> exact z
end
end HandSPX
end PySem

set_option maxHeartbeats 1000000
namespace Q
open PySem PySem.Spec PyProof.Rows L2
/-! ### an own exception as a value -/
theorem upd_back {H : Hp} {a d : Addr} {u v w x y : HO} (hne : d ≠ a) : upd (upd (upd (upd (upd H a u) d v) a w) a x) d y = upd (upd H a x) d y := by
  funext b
  by_cases q : b = d
  · subst q; rw [upd_same, upd_same]
  · rw [upd_ne q, upd_ne q]
    by_cases q2 : b = a
    · subst q2; rw [upd_same, upd_same]
    · rw [upd_ne q2, upd_ne q2, upd_ne q2, upd_ne q, upd_ne q2]
/-- what stands behind the make -/
def QE (C : Addr) (np : Nat) (mk : List V → List (Str × V)) (H1 : Hp) (Q : VK) (vs : List V) : Prop :=
  vs.length = np ∧ ∀ (a d : Addr) (oe : Obj), H1 a = none → H1 d = none → d ≠ a → XO oe C d → Q (.ref a) (upd (upd H1 a (exq a oe)) d (.xd (mk vs)))
section
variable {X : Cx} {c : Cl} {W : WX} {E : XK} {e : Expr} {es : List Expr} {ta tk : TA} {p pos pos2 : Pos} {x : Str} {B newId initId : String} {tl : List Value} {C fI : Addr} {k np : Nat} {fd : FuncData} {ps ks : List Str} {ns : List Str} {mk : List V → List (Str × V)} {kws : List Keyword} {ix : List Ar}
def Q0 (C : Addr) (H1 : Hp) (a : Addr) (fs : List (Str × V)) : VK := fun v H2 => v = .non ∧ ∃ d : Addr, H2 a = some (exo a C (some d)) ∧ H2 d = some (exd d fs) ∧ d ≠ a ∧ H1 d = none ∧ ∀ x y, upd (upd H2 a x) d y = upd (upd H1 a x) d y
theorem exv_end {pins : List (Addr × Obj)} {σ : L2.St} {H1 H2 : Hp} {Q : VK} {s : Shared} {a d : Addr} {fs : List (Str × V)} (I : Inv X pins σ H2 s) (ea : H2 a = some (exo a C (some d))) (ed : H2 d = some (exd d fs)) (hne : d ≠ a) (he : ∀ x y, upd (upd H2 a x) d y = upd (upd H1 a x) d y)
    (q : ∀ oe, XO oe C d → Q (.ref a) (upd (upd H1 a (exq a oe)) d (.xd fs))) : EP X pins σ Q (.ref a) s := by
  obtain ⟨t0, hoe⟩ := exo_at I.hok ea
  obtain ⟨mA, hns, rel⟩ := exd_at I.hok ed
  obtain ⟨hh, g, dr, tk, os⟩ := s
  let oe : Obj := { cls := .ref C, dict := some d, data := .fields #[.ref t0, .none, .none, .none, .bool false, .none] }
  have I1 : Inv X pins σ (upd H2 a (exq a oe)) ⟨hh, g, dr, tk, os⟩ := I.write (x := a) (e := a) (o := exq a oe) (t' := tk) (h' := hh) (by rw [ea]; exact trivial) (.inl rfl) (fun _ _ _ z => z) ⟨oe, hoe⟩ ⟨hoe, ⟨oe, hoe⟩, fun h1 h2 z kk => kk _ z⟩
  have I2 : Inv X pins σ (upd (upd H2 a (exq a oe)) d (.xd fs)) ⟨hh, g, dr, tk, os⟩ := I1.write (x := d) (e := d) (o := .xd fs) (t' := tk) (h' := hh) (by rw [upd_ne hne, ed]; exact trivial) (.inl rfl) (fun _ _ _ z => z) (by obtain ⟨o, es, ep, ho, _⟩ := hns; exact ⟨o, ho⟩) ⟨mA, hns, rel⟩
  rw [he] at I2
  exact ⟨.ref a, _, I2, rfl, q oe ⟨⟨rfl, rfl⟩, _, rfl⟩⟩
theorem spI_now {a : Addr} {vs : List V} {H1 : Hp} (T : ExC X.K tl newId C) (hno : ∀ f ∈ ns, PySem.W.findIn X.K (.ref C) f = some none) (hz : vs.length = np) : spI X.K tl newId np ns mk (.ref a :: vs) (upd H1 a (exo a C none)) (Q0 C H1 a (mk vs)) E0 :=
  ⟨_, C, vs, rfl, hz, T, hno, upd_same, fun dx n ne => ⟨rfl, dx, upd_same, by rw [upd_ne ne]; exact upd_same, ne, by rw [upd_ne ne] at n; exact n, fun x y => upd_back ne⟩⟩
theorem pe_e (XB : ExB B newId initId tl) (T : ExC X.K tl newId C) (hno : ∀ f ∈ ns, PySem.W.findIn X.K (.ref C) f = some none) (iC : PySem.W.findIn X.K (.ref C) "__init__" = some (some (.ref fI))) (tI : PySem.W.typeIn X.K (.ref fI) = some (.type "function"))
    (F1 : FnOk X.prog X.w X.K X.mg X.base (L2.CX X.prog X.w) k fI fd ps (spI X.K tl newId np ns mk)) (hnp : np ≤ 100) (hr : Room (k + 1) X.A) (hb : Binds X.K fd ps []) (hx : Passes (L2.CX X.prog X.w) X E0) (hg : Gl X x) (hm : X.mg x = some (.ref C)) (ha : PA X (e :: es) ta)
    (hdb : (x == ("__debug__" : Str)) = false := by decide) (he : starEach (e :: es) X.env = (false, eval e X.env) :: starEach es X.env := by rfl) (hpl : (backTo pos (starEach es X.env)).any (·.1) = false := by rfl) :
    PE X (.Call (.Name x p) (e :: es) [] pos) (fun σ H Q => ta σ H fun vs H1 => QE C np mk H1 Q vs) := by
  refine ⟨fun pins s σ H Q I h => ?_⟩
  obtain ⟨nm, q, N, bs, bm, sn, sub, ab, col, dd, k0, k1, k2, k3, k5, eC, eb⟩ := T.cls
  refine wpAny_Call_Name_kw (ld_glob I hg hm ?_ hdb)
  refine PySem.W.callWith_K (h₀ := X.base) I.ok.mod.kin T.kC (thn (ha.run pos pins s σ H _ I h) fun us s1 ⟨vs, H1, I1, r1, hz, q1⟩ => ⟨I1.kIn, ?_⟩) he hpl
  show wpAny _ _ (call (.ref C) us) _ _ _
  obtain ⟨h0, g, dr, tk, os⟩ := s1
  have hsz : h0.objs.size ≤ h0.objs.size + 1 := Nat.le_succ _
  have hn : H1 (h0.objs.size + 1) = none := I1.hok.fresh hsz
  have up : ∀ b o, h0.get? b = some o → ((h0.push (PySem.W.kdv_tup us)).push (PySem.HandSPX.excO C h0.objs.size)).get? b = some o := fun b o e => Heap.get?_push_of_some _ (Heap.get?_push_of_some _ e)
  have got : ((h0.push (PySem.W.kdv_tup us)).push (PySem.HandSPX.excO C h0.objs.size)).get? (h0.objs.size + 1) = some (PySem.HandSPX.excO C h0.objs.size) := by heap_get
  have I2 : Inv X pins σ (upd H1 (h0.objs.size + 1) (exo (h0.objs.size + 1) C none)) ⟨(h0.push (PySem.W.kdv_tup us)).push (PySem.HandSPX.excO C h0.objs.size), g, dr, tk, os⟩ :=
    I1.laid (t' := tk) up hsz (exo_ok got)
  have r2 : Vals (V.ref (h0.objs.size + 1) :: vs) (Value.ref (h0.objs.size + 1) :: us) := .cons rfl r1
  have hl : (Value.ref (h0.objs.size + 1) :: us ++ []).length = ps.length := by
    have e := r2.length
    rw [F1.len _ _ _ _ (spI_now (a := h0.objs.size + 1) (H1 := H1) T hno hz)] at e
    rw [List.append_nil]; exact e.symm
  have B0 := hb ⟨(h0.push (PySem.W.kdv_tup us)).push (PySem.HandSPX.excO C h0.objs.size), g, dr, tk, os⟩ (Value.ref (h0.objs.size + 1) :: us) I2.kIn hl
  rw [List.append_nil] at B0
  have hus : us.length ≤ sizeLine := by rw [← Paired.length r1, sizeLine_eq]; omega
  refine wpAny_call (PySem.HandSPX.call_own XB.base (fun Y => ends_has Y bm eb) (I1.kIn _ _ eC) (PySem.W.looks_findIn I1.kIn iC) (fun self => PySem.W.bind_fn I1.kIn self tI) hus
    (codeAny_mono (F1.run _ X.stack _ _ ⟨Value.ref (h0.objs.size + 1) :: us, []⟩ (Value.ref (h0.objs.size + 1) :: us) _ _ E0 (hr.make C us []) (I2.env0.make C us []) B0 r2 (spI_now T hno hz)) fun r s' hq' => ?_))
  cases r with
  | error er => exact hx pins σ _ _ er s' I2 hq'
  | ok fl =>
    cases fl with
    | ret u =>
      obtain ⟨v, H2, I3, rv, rfl, d, ea, ed, hne, hd1, hbk⟩ := I2.after hq'
      exact ⟨rv, exv_end I3 ea ed hne hbk fun oe xo => q1 _ _ _ hn hd1 hne xo⟩
    | next => exact False.elim hq'
    | brk => exact False.elim hq'
    | cont => exact False.elim hq'
theorem pe_e0 (XB : ExB B newId initId tl) (T : ExC X.K tl newId C) (hno : ∀ f ∈ ns, PySem.W.findIn X.K (.ref C) f = some none) (iC : PySem.W.findIn X.K (.ref C) "__init__" = some (some (.ref fI))) (tI : PySem.W.typeIn X.K (.ref fI) = some (.type "function"))
    (F1 : FnOk X.prog X.w X.K X.mg X.base (L2.CX X.prog X.w) k fI fd ps (spI X.K tl newId 0 ns mk)) (hr : Room (k + 1) X.A) (hb : Binds X.K fd ps []) (hx : Passes (L2.CX X.prog X.w) X E0) (hg : Gl X x) (hm : X.mg x = some (.ref C))
    (hdb : (x == ("__debug__" : Str)) = false := by decide) : PE X (.Call (.Name x p) [] [] pos) (fun σ H Q => QE C 0 mk H Q []) := by
  refine ⟨fun pins s σ H1 Q I1 ⟨hz, q1⟩ => ?_⟩
  obtain ⟨nm, q, N, bs, bm, sn, sub, ab, col, dd, k0, k1, k2, k3, k5, eC, eb⟩ := T.cls
  refine wpAny_Call_Name_kw (ld_glob I1 hg hm ?_ hdb)
  refine PySem.W.callWith_K0 I1.kIn T.kC ?_
  show wpAny _ _ (call (.ref C) []) _ _ _
  obtain ⟨h0, g, dr, tk, os⟩ := s
  have hsz : h0.objs.size ≤ h0.objs.size + 1 := Nat.le_succ _
  have hn : H1 (h0.objs.size + 1) = none := I1.hok.fresh hsz
  have up : ∀ b o, h0.get? b = some o → ((h0.push (PySem.W.kdv_tup [])).push (PySem.HandSPX.excO C h0.objs.size)).get? b = some o := fun b o e => Heap.get?_push_of_some _ (Heap.get?_push_of_some _ e)
  have got : ((h0.push (PySem.W.kdv_tup [])).push (PySem.HandSPX.excO C h0.objs.size)).get? (h0.objs.size + 1) = some (PySem.HandSPX.excO C h0.objs.size) := by heap_get
  have I2 : Inv X pins σ (upd H1 (h0.objs.size + 1) (exo (h0.objs.size + 1) C none)) ⟨(h0.push (PySem.W.kdv_tup [])).push (PySem.HandSPX.excO C h0.objs.size), g, dr, tk, os⟩ :=
    I1.laid (t' := tk) up hsz (exo_ok got)
  have r2 : Vals [V.ref (h0.objs.size + 1)] [Value.ref (h0.objs.size + 1)] := .cons rfl .nil
  have hl : ([Value.ref (h0.objs.size + 1)] ++ []).length = ps.length := by
    have e := r2.length
    rw [F1.len _ _ _ _ (spI_now (a := h0.objs.size + 1) (H1 := H1) (vs := []) T hno hz)] at e
    rw [List.append_nil]; exact e.symm
  have B0 := hb ⟨(h0.push (PySem.W.kdv_tup [])).push (PySem.HandSPX.excO C h0.objs.size), g, dr, tk, os⟩ [Value.ref (h0.objs.size + 1)] I2.kIn hl
  rw [List.append_nil] at B0
  refine wpAny_call (PySem.HandSPX.call_own XB.base (fun Y => ends_has Y bm eb) (I1.kIn _ _ eC) (PySem.W.looks_findIn I1.kIn iC) (fun self => PySem.W.bind_fn I1.kIn self tI) (by show 0 ≤ sizeLine; omega)
    (codeAny_mono (F1.run _ X.stack _ _ ⟨[Value.ref (h0.objs.size + 1)], []⟩ [Value.ref (h0.objs.size + 1)] _ _ E0 (hr.make C [] []) (I2.env0.make C [] []) B0 r2 (spI_now (vs := []) T hno hz)) fun r s' hq' => ?_))
  cases r with
  | error er => exact hx pins σ _ _ er s' I2 hq'
  | ok fl =>
    cases fl with
    | ret u =>
      obtain ⟨v, H2, I3, rv, rfl, d, ea, ed, hne, hd1, hbk⟩ := I2.after hq'
      exact ⟨rv, exv_end I3 ea ed hne hbk fun oe xo => q1 _ _ _ hn hd1 hne xo⟩
    | next => exact False.elim hq'
    | brk => exact False.elim hq'
    | cont => exact False.elim hq'
/-- X(k = e, ..), the values in the order ix of the parameters -/
theorem pe_eK (XB : ExB B newId initId tl) (T : ExC X.K tl newId C) (hno : ∀ f ∈ ns, PySem.W.findIn X.K (.ref C) f = some none) (iC : PySem.W.findIn X.K (.ref C) "__init__" = some (some (.ref fI))) (tI : PySem.W.typeIn X.K (.ref fI) = some (.type "function"))
    (F1 : FnOk X.prog X.w X.K X.mg X.base (L2.CX X.prog X.w) k fI fd ps (spI X.K tl newId np ns mk)) (hr : Room (k + 1) X.A) (Bd : Bnd X.K fd ps 1 ks (.p 0 :: ix) []) (hix : ∀ (s : V) (zs : List V), arr ix [s] zs [] = arr ix [] zs []) (hx : Passes (L2.CX X.prog X.w) X E0) (hg : Gl X x) (hm : X.mg x = some (.ref C)) (hkw : PK X kws tk)
    (hdb : (x == ("__debug__" : Str)) = false := by decide) (hall : (backToKw pos (keywordEach kws X.env)).all (·.1.isSome) = true := by rfl) (hks : (backToKw pos (keywordEach kws X.env)).filterMap (·.1) = ks := by rfl)
    (hpl : ((backTo pos (starEach [] X.env)).any (·.1) || (backToKw pos (keywordEach kws X.env)).any (·.1.isNone)) = false := by rfl) :
    PE X (.Call (.Name x p) [] kws pos) (fun σ H Q => tk σ H fun zs H1 => zs.length = ks.length ∧ QE C np mk H1 Q (arr ix [] zs [])) := by
  refine ⟨fun pins s σ H Q I h => ?_⟩
  obtain ⟨nm, q, N, bs, bm, sn, sub, ab, col, dd, k0, k1, k2, k3, k5, eC, eb⟩ := T.cls
  refine wpAny_Call_Name_kw (ld_glob I hg hm ?_ hdb)
  refine PySem.W.callWith_KW0 (h₀ := X.base) I.ok.mod.kin T.kC hall (thn (hkw.run pos pins s σ H _ I h) fun us s1 ⟨zs, H1, I1, r1, l2, hz, q1⟩ => ⟨I1.kIn, ?_⟩) hpl
  rw [hks]
  show wpAny _ _ (call (.ref C) [] (ks.zip us)) _ _ _
  obtain ⟨h0, g, dr, tk, os⟩ := s1
  have hsz : h0.objs.size ≤ h0.objs.size + 1 := Nat.le_succ _
  have hn : H1 (h0.objs.size + 1) = none := I1.hok.fresh hsz
  have up : ∀ b o, h0.get? b = some o → ((h0.push (PySem.W.kdv_tup [])).push (PySem.HandSPX.excO C h0.objs.size)).get? b = some o := fun b o e => Heap.get?_push_of_some _ (Heap.get?_push_of_some _ e)
  have got : ((h0.push (PySem.W.kdv_tup [])).push (PySem.HandSPX.excO C h0.objs.size)).get? (h0.objs.size + 1) = some (PySem.HandSPX.excO C h0.objs.size) := by heap_get
  have I2 : Inv X pins σ (upd H1 (h0.objs.size + 1) (exo (h0.objs.size + 1) C none)) ⟨(h0.push (PySem.W.kdv_tup [])).push (PySem.HandSPX.excO C h0.objs.size), g, dr, tk, os⟩ :=
    I1.laid (t' := tk) up hsz (exo_ok got)
  have r2 : Vals (V.ref (h0.objs.size + 1) :: arr ix [] zs []) (arr (.p 0 :: ix) [Value.ref (h0.objs.size + 1)] us []) := by
    have r3 : Vals [V.ref (h0.objs.size + 1)] [Value.ref (h0.objs.size + 1)] := .cons rfl .nil
    have := vals_arr r3 r1 .nil (.p 0 :: ix)
    have e : arr (.p 0 :: ix) [V.ref (h0.objs.size + 1)] zs [] = V.ref (h0.objs.size + 1) :: arr ix [V.ref (h0.objs.size + 1)] zs [] := rfl
    rw [e, hix] at this
    exact this
  have B0 := Bd.to ⟨(h0.push (PySem.W.kdv_tup [])).push (PySem.HandSPX.excO C h0.objs.size), g, dr, tk, os⟩ [Value.ref (h0.objs.size + 1)] us I2.kIn rfl (r1.length.symm.trans l2)
  refine wpAny_call (PySem.HandSPX.x_call XB.base (fun Y => ends_has Y bm eb) (I1.kIn _ _ eC) (PySem.W.looks_findIn I1.kIn iC) (fun self => PySem.W.bind_fn I1.kIn self tI)
    (codeAny_mono (F1.run _ X.stack _ _ ⟨[Value.ref (h0.objs.size + 1)], ks.zip us⟩ (arr (.p 0 :: ix) [Value.ref (h0.objs.size + 1)] us []) _ _ E0 (hr.make C [] (ks.zip us)) (I2.env0.make C [] (ks.zip us)) B0 r2 (spI_now T hno hz)) fun r s' hq' => ?_))
  cases r with
  | error er => exact hx pins σ _ _ er s' I2 hq'
  | ok fl =>
    cases fl with
    | ret u =>
      obtain ⟨v, H2, I3, rv, rfl, d, ea, ed, hne, hd1, hbk⟩ := I2.after hq'
      exact ⟨rv, exv_end I3 ea ed hne hbk fun oe xo => q1 _ _ _ hn hd1 hne xo⟩
    | next => exact False.elim hq'
    | brk => exact False.elim hq'
    | cont => exact False.elim hq'
end
end Q

set_option maxHeartbeats 4000000
namespace PySem.W
open PySem PySem.Spec PySem.Calls PyProof.Rows
section
variable {prog : Program} {w : World} {A : Around} {E : Value → Shared → Prop} {s : Shared} {K : Frag} {x D : Addr} {ox od : Obj}
/-- `__class__` of an exception that has a dict -/
theorem x_class {Q : Option Value → Shared → Prop} (hga : findIn K (.ref D) "__getattribute__" = some (some (.builtin "BaseException.__getattribute__"))) (hgt : findIn K (.ref D) "__getattr__" = some none) (hsub : subIn K (.ref D) (.type "BaseException") = some true)
    (hdct : hasDictIn K D = true) (ha : findIn K (.ref D) "__class__" = some (some (.builtin "object.__class__")))
    (hn : specialIn K (.builtin "object.__class__") "__get__" = some (some (.builtin "getset_descriptor.__get__"))) (htk : takesIn K (.builtin "object.__class__") = some true) (hm : mroIn K D (.type "object") = some true)
    (X : K.In s.heap) (I : InstAt s.heap x ox D (some od)) (h : Q (some (.ref D)) { s with toks := s.toks + 1 }) : wpAny (model prog w) A (getAttr? (.ref x) "__class__") Q E s := by
  have hf : findObj K D (some od) "__class__" = some (.bind (.builtin "getset_descriptor.__get__") (.builtin "object.__class__")) := findObj_data (by obtain ⟨cd, hc, _⟩ := any_some hdct; rw [hc]; rfl) ha hn htk
  obtain ⟨hp, g, d, t, os⟩ := s
  have K0 := I.type (M := model prog w)
  have K1 := looks_findIn (M := model prog w) X hga
  have K2 := looks_findIn (M := model prog w) X hgt
  have K3 := looks_find (M := model prog w) X I hf
  have isB : Looks (model prog w) hp (isInstance (.ref x) (.type "BaseException")) true := K0.andThen (looks_subIn X hsub)
  have y0 : (false && onTheHeap (Value.builtin "BaseException.__getattribute__")) = false := rfl
  have y2 : (Value.builtin "BaseException.__getattribute__" == Value.builtin "object.__getattribute__") = false := by decide +kernel
  have y1 : (onTheHeap (Value.ref D) && Value.builtin "BaseException.__getattribute__" == Value.builtin "object.__getattribute__") = false := by rw [y2]; rfl
  unfold getAttr? getAttrBy? getAttrBy
  refine wpAny_bind (wpAny_mkText (wpAny_bind (wpAny_attempt (wpAny_holding (wpAny_bind (K0.at (wpAny_bind (K1.at ?_))))))))
  show wpAny _ _ (if (onTheHeap (Value.ref D) && Value.builtin "BaseException.__getattribute__" == Value.builtin "object.__getattribute__") = true then _ else _) _ _ _
  rw [y1, if_neg Bool.false_ne_true]
  unfold getAttrByItsOwn hookBefore
  refine wpAny_bind ?_
  rw [if_pos (show onTheHeap (Value.ref D) = true from rfl)]
  refine K2.at ?_
  refine wpAny_bind (wpAny_attempt (wpAny_holding ?_))
  unfold callGetattribute
  rw [y0, if_neg Bool.false_ne_true]
  unfold boundAndCalled
  rw [PySem.F.excAttr_ValueError.ga.bind (.ref x)]
  refine wpAny_bind (wpAny_pure ?_)
  show wpAny _ _ (call (.builtin "BaseException.__getattribute__") [.ref x, .str "__class__" t]) _ _ _
  refine wpAny_call (codeAny_call_builtin PySem.F.excAttr_ValueError.ga.plain PySem.F.entry_bexc_ga ?_)
  refine @check_slot (model prog w) _ _ ⟨hp, g, d, t + 1, os⟩ "BaseException.__getattribute__" "BaseException" "__getattribute__" (.ref x) [.str "__class__" t] [] _ (by decide +kernel) (by decide +kernel) isB (PySem.F.args_bexc_ga (.ref x) (.str "__class__" t)) ?_
  unfold Builtin.«object.__getattribute__»
  refine wpAny_bind (wpAny_of_eq (a := ((Value.ref x : Value), [Value.str "__class__" t])) (by first | rfl | (simp only [slotArgs]; rfl)) ?_)
  refine wpAny_bind (wpAny_pure (wpAny_bind (K0.at (wpAny_bind (K3.at ?_)))))
  show wpAny _ _ (holding [Value.builtin "object.__class__"] (call (.builtin "getset_descriptor.__get__") [.builtin "object.__class__", .ref x, .ref D]) >>= ret) _ _ _
  refine wpAny_bind (wpAny_holding (wpAny_call (class_get (s := ⟨hp, g, d, t + 1, os⟩) (ox := ox) (od := some od) X I hm ?_)))
  refine wpAny_pure ?_
  show wpAny _ _ (handedOut (.ref D)) _ _ _
  rw [handedOut_of (v := .ref D) rfl]
  first
    | exact wpAny_pure (wpAny_pure h)
    | exact wpAny_pure h
    | exact wpAny_pure (wpAny_bind (wpAny_pure (wpAny_pure h)))
end
end PySem.W
namespace PySem.W
open PySem PySem.Spec PySem.Calls PyProof.Rows
theorem x_kit {K : Frag} {x D : Addr} {ox od : Obj} (hga : findIn K (.ref D) "__getattribute__" = some (some (.builtin "BaseException.__getattribute__"))) (hgt : findIn K (.ref D) "__getattr__" = some none) (hsub : subIn K (.ref D) (.type "BaseException") = some true) (hdct : hasDictIn K D = true) (ha : findIn K (.ref D) "__class__" = some (some (.builtin "object.__class__")))
    (hn : specialIn K (.builtin "object.__class__") "__get__" = some (some (.builtin "getset_descriptor.__get__"))) (htk : takesIn K (.builtin "object.__class__") = some true) (hm : mroIn K D (.type "object") = some true) :
    KitX K (.ref x) (.ref D) (fun h => InstAt h x ox D (some od)) where
  ty := fun _ _ _ I => I.type
  it := fun _ _ X _ => by
    obtain ⟨cdD, hcD, _⟩ := any_some hdct
    unfold clsIn at hcD
    split at hcD
    · rename_i c' d' cd' sl' ho
      intro A' Q' E' s' k q
      unfold isType loadHead
      exact wpAny_bind (wpAny_loadPart (k _ _ (X _ _ ho)) (wpAny_pure q))
    · cases hcD
  ne := fun h tp dd its n sl X htp => by
    obtain ⟨cdD, hcD, _⟩ := any_some hdct
    refine Bool.eq_false_iff.mpr fun q => ?_
    have e : D = tp := Value.ref.inj (beq_iff_eq.mp q)
    subst e
    unfold clsIn at hcD
    split at hcD
    · rename_i c' d' cd' sl' ho
      have z := (X _ _ ho).symm.trans htp
      cases z
    · cases hcD
  ca := fun X I k => x_class hga hgt hsub hdct ha hn htk hm X I k
end PySem.W
namespace Q
open PySem PySem.Spec PyProof.Rows L2
/-! ### isinstance(e, C), e an exception -/
def rIsX (K : PySem.W.Frag) : List V → Hp → VK → Prop := fun xs H Q => ∃ (a C d : Addr) (oe : Obj) (fv : List (Str × V)) (y : V) (cv : Value) (b : Bool), xs = [.ref a, y] ∧ H a = some (exq a oe) ∧ XO oe C d ∧ H d = some (.xd fv) ∧ ExcC K C ∧ (∀ u, RelV y u → u = cv) ∧ PySem.W.kitOne K (.ref C) cv = some b ∧ Q (.bl b) H
theorem call_isX {X : Cx} : CallR X (.builtin "isinstance") (rIsX X.K) := by
  intro pins s σ H xs us Q I r h
  obtain ⟨a, C, d, oe, fv, y, cv, b, rfl, ha, xo, hd, T, hcv, e, q⟩ := h
  cases r with
  | cons rx rr =>
    cases rr with
    | cons rt rr =>
      cases rr
      cases rx
      have ec := hcv _ rt
      subst ec
      have hget : s.heap.get? a = some oe := (I.hok a (exq a oe) ha).1
      obtain ⟨mA, hns, _⟩ : ∃ mA, s.heap.Ns1 d mA ∧ ∀ f, RelO (fv.lookup f) (mA f) := I.hok d (.xd fv) hd
      obtain ⟨od, ho, hl⟩ := lookIn_ns hns
      obtain ⟨z, vs, hv⟩ := xo
      have J : PySem.W.InstAt s.heap a oe C (some od) := ⟨hget, z.1, by unfold PySem.W.notCls; rw [hv], by rw [z.2]; exact ho⟩
      exact PySem.W.kia_one (PySem.W.x_kit T.hg T.hk T.hs T.hd T.ha T.hn T.ht T.hm) I.kIn J e (fun z => nomatch z) fun tk => ⟨.bl b, H, I.kept (t' := tk) fun _ _ z => z, rfl, q⟩
abbrev IxTab := List ((Str × Ty) × Bool)
abbrev xx (n : Str) (t : Ty) (b : Bool) : (Str × Ty) × Bool := ((n, t), b)
structure IsxOk (c : Cl) (tb : IxTab) : Prop where
  one : ∀ n u b, ((n, u), b) ∈ tb → ∀ C, c.adr n = some C → ExcC c.K C ∧ ∃ y, valT c u = some y ∧ PySem.W.kitOne c.K (.ref C) y = some b
def fIsx (tb : IxTab) : Fn := fun ds M => match ds with
  | [.exn n _, y] => match tyOfCls y with
    | some u => match tb.lookup (n, u) with
      | some b => .ok (.bl b) M
      | none => .stuck
    | none => .stuck
  | _ => .stuck
section
variable {c : Cl}
theorem cls_rel {θ : List Addr} {P : Hp} {d : D} {v : V} {t : Ty} {y : Value} (r : VR c θ P d v) (h : tyOfCls d = some t) (hy : valT c t = some y) : ∀ u, RelV v u → u = y := by
  intro u ru
  cases d with
  | ty b => cases h; cases r; cases hy; exact ru
  | cls n =>
    cases h
    obtain ⟨a, ha, rfl⟩ := r
    simp only [valT, ha, Option.map_some] at hy
    cases hy
    exact ru
  | _ => cases h
theorem c_isx {tb : IxTab} (hh : c.hot = none) (T : IsxOk c tb) : CallD c (rIsX c.K) (fIsx tb) := fun θ P H M ds vs Q Wx w r o => by
  match ds, o with
  | [.exn n fs, y], o =>
    obtain ⟨v, v', rfl, r1, r2⟩ := r.inv2
    cases q1 : tyOfCls y with
    | none => simp only [fIsx, q1] at o; exact o.elim
    | some u =>
      cases q2 : tb.lookup (n, u) with
      | none => simp only [fIsx, q1, q2] at o; exact o.elim
      | some b =>
        simp only [fIsx, q1, q2] at o
        obtain ⟨a, oe, C, d, fv, rfl, hC, xo, hp, hd, _⟩ := r1
        rw [hh] at hp
        obtain ⟨t1, z, hz, t2⟩ := T.one n u b (lookup_mem q2) C hC
        have hp := hp.resolve_right (fun z => by cases z)
        exact ⟨a, C, d, oe, fv, v', z, b, rfl, w.sub _ _ hp, xo, w.sub _ _ hd, t1, cls_rel r2 q1 hz, t2, Out.now (R := RV c) w o rfl⟩
end
/-! ### X(e, ..) as a value -/
def rEx (n : Str) (np : Nat) (mk : List D → List (Str × D)) (a : Rn (List D)) : Rn D := fun ρ M => (a ρ M).bind fun ds M1 => if ds.length = np then .ok (.exn n (mk ds)) M1 else .stuck
def rExK (n : Str) (np nk : Nat) (ix : List Ar) (mk : List D → List (Str × D)) (a : Rn (List D)) : Rn D := fun ρ M => (a ρ M).bind fun zs M1 => if zs.length = nk ∧ (arr ix [] zs []).length = np then .ok (.exn n (mk (arr ix [] zs []))) M1 else .stuck
section
variable {X : Cx} {c : Cl} {W : WX} {E : XK} {e : Expr} {es : List Expr} {ra rk : Rn (List D)} {p pos : Pos} {x : Str} {B newId initId : String} {tl : List Value} {k np : Nat} {ps ks ns : List Str} {mk : List V → List (Str × V)} {mkD : List D → List (Str × D)} {d : DefQ} {kws : List Keyword} {ix : List Ar}
theorem exv_now {θ : List Addr} {P H : Hp} {M : MS} {Q : VK} {Wx : Value → Option Addr → Hp → Prop} {n : Str} {C : Addr} {ds : List D} {vs : List V} (w : Wo c θ P H M) (r : VRL c θ P ds vs) (hC : c.adr n = some C) (hmk : MkRel c mk mkD) (hl : ds.length = np) (o : OutE c θ P H Q Wx (.ok (.exn n (mkD ds)) M)) : QE C np mk H Q vs :=
  ⟨by rw [r.length]; exact hl, fun a d oe ha hd hne xo => by
    obtain ⟨w2, s2⟩ := w.newP (o := exq a oe) ha
    have hd' : upd H a (exq a oe) d = none := by rw [upd_ne hne]; exact hd
    obtain ⟨w3, s3⟩ := w2.newP (o := .xd (mk vs)) hd'
    exact o _ _ _ _ w3 (s2.trans s3) ⟨a, oe, C, d, mk vs, rfl, hC, xo, .inl (by rw [upd_ne (Ne.symm hne)]; exact upd_same), upd_same, hmk _ _ _ _ ((r.step s2).step s3)⟩⟩
theorem s_ex (hK : c.K = X.K) (XB : ExB B newId initId tl) (D0 : Xq X.prog X.w c X.mg X.base d k ps tl newId np ns mk) (hnp : np ≤ 100) (hps : ps.length = np + 1) (hr : Room (k + 1) X.A) (hx : exAll c.K tl newId (He.ga c.K x) ns = true) (hi : exInitB c.K x d.at_ = true)
    (hm : X.mg x = some (.ref (He.ga c.K x))) (hC : c.adr x = some (He.ga c.K x)) (hmk : MkRel c mk mkD) (hd : d.dfl = [])
    (hb : ∀ (clo : List (Str × Addr)) (kV doc pm : Value) (an : Option Addr) (cdv ct : Value) (us : List Value), us.length = ps.length → bindArgs (PySem.W.fnX d.name d.qual d.params d.body d.scope clo .none kV doc pm an cdv ct) ⟨us, []⟩ = pure (ps.zip us)) (ha : PA X (e :: es) (liftA c W ra))
    (hg : Gl X x := by rfl) (hdb : (x == ("__debug__" : Str)) = false := by decide) (he : starEach (e :: es) X.env = (false, eval e X.env) :: starEach es X.env := by rfl) (hpl : (backTo pos (starEach es X.env)).any (·.1) = false := by rfl) :
    PE X (.Call (.Name x p) (e :: es) [] pos) (liftE c W (rEx x np mkD ra)) := by
  obtain ⟨fd, F1, F2⟩ := D0.ex
  rw [hK] at F1 F2 hm hx hi
  obtain ⟨h1, h2, h3, h4, h5⟩ := exAll_ok hx
  obtain ⟨i1, i2⟩ := exInit_ok hi
  refine PE.imp (pe_e XB h1 h3 i1 i2 F1 hnp hr (F2.bindsN hd hb) pass0' hg hm ha hdb he hpl) fun σ H Q ⟨ρ, M, θ, P, w, er, o⟩ => ⟨ρ, M, θ, P, w, er, Out.bind (R := RL c) o fun ds M1 vs H1 θ1 P1 w1 s1 r1 o1 => ?_⟩
  by_cases q : ds.length = np
  · rw [if_pos q] at o1
    exact exv_now w1 r1 (by rw [← hK]; exact hC) hmk q o1
  · rw [if_neg q] at o1
    exact o1.elim
theorem s_ex0 (hK : c.K = X.K) (XB : ExB B newId initId tl) (D0 : Xq X.prog X.w c X.mg X.base d k ps tl newId 0 ns mk) (hps : ps.length = 1) (hr : Room (k + 1) X.A) (hx : exAll c.K tl newId (He.ga c.K x) ns = true) (hi : exInitB c.K x d.at_ = true)
    (hm : X.mg x = some (.ref (He.ga c.K x))) (hC : c.adr x = some (He.ga c.K x)) (hmk : MkRel c mk mkD) (hd : d.dfl = [])
    (hb : ∀ (clo : List (Str × Addr)) (kV doc pm : Value) (an : Option Addr) (cdv ct : Value) (us : List Value), us.length = ps.length → bindArgs (PySem.W.fnX d.name d.qual d.params d.body d.scope clo .none kV doc pm an cdv ct) ⟨us, []⟩ = pure (ps.zip us))
    (hg : Gl X x := by rfl) (hdb : (x == ("__debug__" : Str)) = false := by decide) :
    PE X (.Call (.Name x p) [] [] pos) (liftE c W (rEx x 0 mkD rNil)) := by
  obtain ⟨fd, F1, F2⟩ := D0.ex
  rw [hK] at F1 F2 hm hx hi
  obtain ⟨h1, h2, h3, h4, h5⟩ := exAll_ok hx
  obtain ⟨i1, i2⟩ := exInit_ok hi
  exact PE.imp (pe_e0 XB h1 h3 i1 i2 F1 hr (F2.bindsN hd hb) pass0' hg hm hdb) fun σ H Q ⟨ρ, M, θ, P, w, er, o⟩ => exv_now w (ds := []) (vs := []) rfl (by rw [← hK]; exact hC) hmk rfl o
theorem s_exK (hK : c.K = X.K) (XB : ExB B newId initId tl) (D0 : Xq X.prog X.w c X.mg X.base d k ps tl newId np ns mk) (hr : Room (k + 1) X.A) (hx : exAll c.K tl newId (He.ga c.K x) ns = true) (hi : exInitB c.K x d.at_ = true)
    (hm : X.mg x = some (.ref (He.ga c.K x))) (hC : c.adr x = some (He.ga c.K x)) (hmk : MkRel c mk mkD)
    (Bd : ∀ fd, FunQ c.K d (adr c.K d.at_) fd → Bnd c.K fd ps 1 ks (.p 0 :: ix) []) (hix : ∀ (s : V) (zs : List V), arr ix [s] zs [] = arr ix [] zs []) (hkw : PK X kws (liftA c W rk))
    (hg : Gl X x := by rfl) (hdb : (x == ("__debug__" : Str)) = false := by decide) (hall : (backToKw pos (keywordEach kws X.env)).all (·.1.isSome) = true := by rfl) (hks : (backToKw pos (keywordEach kws X.env)).filterMap (·.1) = ks := by rfl)
    (hpl : ((backTo pos (starEach [] X.env)).any (·.1) || (backToKw pos (keywordEach kws X.env)).any (·.1.isNone)) = false := by rfl) :
    PE X (.Call (.Name x p) [] kws pos) (liftE c W (rExK x np ks.length ix mkD rk)) := by
  obtain ⟨fd, F1, F2⟩ := D0.ex
  have Bd := Bd fd F2
  rw [hK] at F1 F2 hm hx hi Bd
  obtain ⟨h1, h2, h3, h4, h5⟩ := exAll_ok hx
  obtain ⟨i1, i2⟩ := exInit_ok hi
  refine PE.imp (pe_eK XB h1 h3 i1 i2 F1 hr Bd hix pass0' hg hm hkw hdb hall hks hpl) fun σ H Q ⟨ρ, M, θ, P, w, er, o⟩ => ⟨ρ, M, θ, P, w, er, Out.bind (R := RL c) o fun ds M1 vs H1 θ1 P1 w1 s1 r1 o1 => ?_⟩
  by_cases q : ds.length = ks.length ∧ (arr ix [] ds []).length = np
  · rw [if_pos q] at o1
    exact ⟨by rw [r1.length]; exact q.1, exv_now w1 (vrl_arr (as := []) (vs := []) (es := []) (dv := []) rfl r1 rfl ix) (by rw [← hK]; exact hC) hmk q.2 o1⟩
  · rw [if_neg q] at o1
    exact o1.elim
end
end Q
namespace Q
open PySem PySem.Spec PyProof.Rows L2
/-- xs + ys, a list that will be changed -/
def opAddM (d e : D) (M : MS) : Res D := match ownL d M, ownL e M with
  | some xs, some ys => rGuard (small (xs.length + ys.length)) (.ok (.ref M.length) (M ++ [.lst (xs ++ ys)]))
  | _, _ => .stuck
theorem o_addM {c : Cl} : Op2 c (rAddAll c.K) opAddM := fun θ P H M d e x y Q Wx w rd re o => by
  unfold opAddM at o
  split at o
  · rename_i xs ys h1 h2
    obtain ⟨g, o⟩ := Out.guard (R := RV c) o
    obtain ⟨a, vs, rfl, k1, r1⟩ := own_read w rd h1
    obtain ⟨b, us, rfl, k2, r2⟩ := own_read w re h2
    exact .inr (.inr (.inr ⟨a, b, vs, us, rfl, rfl, k1, k2, by rw [r1.length, r2.length]; exact small_line g, fun p hp => new_lstM w hp (r1.append r2) o⟩))
  · exact o.elim
/-- the head's check of a table of isinstance, e an exception -/
def excB (K : PySem.W.Frag) (C : Addr) : Bool := xfB K C && (He.eqO (PySem.W.findIn K (.ref C) "__class__") (some (some (.builtin "object.__class__"))) && (He.eqO (PySem.W.specialIn K (.builtin "object.__class__") "__get__") (some (some (.builtin "getset_descriptor.__get__"))) && (decide (PySem.W.takesIn K (.builtin "object.__class__") = some true) && decide (PySem.W.mroIn K C (.type "object") = some true))))
theorem exc_of {K : PySem.W.Frag} {C : Addr} (h : excB K C = true) : ExcC K C := by
  obtain ⟨h1, h⟩ := He.ba h
  obtain ⟨h2, h⟩ := He.ba h
  obtain ⟨h3, h⟩ := He.ba h
  obtain ⟨h4, h5⟩ := He.ba h
  have x := xfB_ok h1
  exact ⟨x.ga, x.gg, x.exC, x.hdC, He.eqO_ok h2, He.eqO_ok h3, of_decide_eq_true h4, of_decide_eq_true h5⟩
def ixV (K : PySem.W.Frag) : Ty → Value
  | .inl b => .type b
  | .inr n => .ref (He.ga K n)
def isxB (K : PySem.W.Frag) (cs : List Str) (tb : IxTab) : Bool := (cs.all fun n => excB K (He.ga K n)) && tb.all fun p => cs.contains p.1.1 && decide (PySem.W.kitOne K (.ref (He.ga K p.1.1)) (ixV K p.1.2) = some p.2)
theorem isx_of {cs xs : List Str} {c : Cl} {tb : IxTab} (A : CA cs c) (hc : (tb.all fun p => match p.1.2 with | .inr u => cs.contains u | .inl _ => true) = true) (h : isxB c.K xs tb = true) : IsxOk c tb := ⟨fun n u b m C hC => by
  obtain ⟨h1, h2⟩ := Bool.and_eq_true_iff.mp h
  obtain ⟨e, _⟩ := A.adr _ _ hC
  subst e
  obtain ⟨g1, g2⟩ := Bool.and_eq_true_iff.mp (List.all_eq_true.mp h2 _ m)
  have x := exc_of (List.all_eq_true.mp h1 n (List.contains_iff_mem.mp g1))
  refine ⟨x, ixV c.K u, ?_, of_decide_eq_true g2⟩
  cases u with
  | inl b => rfl
  | inr n' => simp only [valT, A.at_ n' (List.contains_iff_mem.mp (List.all_eq_true.mp hc _ m)), Option.map_some, ixV]⟩
end Q

set_option maxHeartbeats 1000000
namespace K01
open PySem PySem.Spec PyProof.Rows L2 Q
def xtb : IxTab := [xx "QueueError" (.inr "QueueError") true, xx "QueueError" (.inr "Missing") false, xx "QueueError" (.inr "NothingLeft") false, xx "QueueError" (.inl "ValueError") true, xx "QueueError" (.inl "LookupError") false, xx "QueueError" (.inl "IndexError") false, xx "QueueError" (.inr "InvalidNumber") false, xx "QueueError" (.inr "InvalidMerge") false, xx "QueueError" (.inr "InvalidText") false, xx "QueueError" (.inr "TooMany") false, xx "Missing" (.inr "QueueError") false, xx "Missing" (.inr "Missing") true, xx "Missing" (.inr "NothingLeft") false, xx "Missing" (.inl "ValueError") false, xx "Missing" (.inl "LookupError") true, xx "Missing" (.inl "IndexError") false, xx "Missing" (.inr "InvalidNumber") false, xx "Missing" (.inr "InvalidMerge") false, xx "Missing" (.inr "InvalidText") false, xx "Missing" (.inr "TooMany") false, xx "InvalidName" (.inr "QueueError") true, xx "InvalidName" (.inr "Missing") false, xx "InvalidName" (.inr "NothingLeft") false, xx "InvalidName" (.inl "ValueError") true, xx "InvalidName" (.inl "LookupError") false, xx "InvalidName" (.inl "IndexError") false, xx "InvalidName" (.inr "InvalidNumber") false, xx "InvalidName" (.inr "InvalidMerge") false, xx "InvalidName" (.inr "InvalidText") false, xx "InvalidName" (.inr "TooMany") false, xx "InvalidNumber" (.inr "QueueError") true, xx "InvalidNumber" (.inr "Missing") false, xx "InvalidNumber" (.inr "NothingLeft") false, xx "InvalidNumber" (.inl "ValueError") true, xx "InvalidNumber" (.inl "LookupError") false, xx "InvalidNumber" (.inl "IndexError") false, xx "InvalidNumber" (.inr "InvalidNumber") true, xx "InvalidNumber" (.inr "InvalidMerge") false, xx "InvalidNumber" (.inr "InvalidText") false, xx "InvalidNumber" (.inr "TooMany") false, xx "InvalidBlocks" (.inr "QueueError") true, xx "InvalidBlocks" (.inr "Missing") false, xx "InvalidBlocks" (.inr "NothingLeft") false, xx "InvalidBlocks" (.inl "ValueError") true, xx "InvalidBlocks" (.inl "LookupError") false, xx "InvalidBlocks" (.inl "IndexError") false, xx "InvalidBlocks" (.inr "InvalidNumber") false, xx "InvalidBlocks" (.inr "InvalidMerge") false, xx "InvalidBlocks" (.inr "InvalidText") false, xx "InvalidBlocks" (.inr "TooMany") false, xx "InvalidText" (.inr "QueueError") true, xx "InvalidText" (.inr "Missing") false, xx "InvalidText" (.inr "NothingLeft") false, xx "InvalidText" (.inl "ValueError") true, xx "InvalidText" (.inl "LookupError") false, xx "InvalidText" (.inl "IndexError") false, xx "InvalidText" (.inr "InvalidNumber") false, xx "InvalidText" (.inr "InvalidMerge") false, xx "InvalidText" (.inr "InvalidText") true, xx "InvalidText" (.inr "TooMany") false, xx "InvalidStep" (.inr "QueueError") true, xx "InvalidStep" (.inr "Missing") false, xx "InvalidStep" (.inr "NothingLeft") false, xx "InvalidStep" (.inl "ValueError") true, xx "InvalidStep" (.inl "LookupError") false, xx "InvalidStep" (.inl "IndexError") false, xx "InvalidStep" (.inr "InvalidNumber") false, xx "InvalidStep" (.inr "InvalidMerge") false, xx "InvalidStep" (.inr "InvalidText") false, xx "InvalidStep" (.inr "TooMany") false, xx "InvalidMerge" (.inr "QueueError") true, xx "InvalidMerge" (.inr "Missing") false, xx "InvalidMerge" (.inr "NothingLeft") false, xx "InvalidMerge" (.inl "ValueError") true, xx "InvalidMerge" (.inl "LookupError") false, xx "InvalidMerge" (.inl "IndexError") false, xx "InvalidMerge" (.inr "InvalidNumber") false, xx "InvalidMerge" (.inr "InvalidMerge") true, xx "InvalidMerge" (.inr "InvalidText") false, xx "InvalidMerge" (.inr "TooMany") false, xx "InvalidAction" (.inr "QueueError") true, xx "InvalidAction" (.inr "Missing") false, xx "InvalidAction" (.inr "NothingLeft") false, xx "InvalidAction" (.inl "ValueError") true, xx "InvalidAction" (.inl "LookupError") false, xx "InvalidAction" (.inl "IndexError") false, xx "InvalidAction" (.inr "InvalidNumber") false, xx "InvalidAction" (.inr "InvalidMerge") false, xx "InvalidAction" (.inr "InvalidText") false, xx "InvalidAction" (.inr "TooMany") false, xx "InvalidImage" (.inr "QueueError") true, xx "InvalidImage" (.inr "Missing") false, xx "InvalidImage" (.inr "NothingLeft") false, xx "InvalidImage" (.inl "ValueError") true, xx "InvalidImage" (.inl "LookupError") false, xx "InvalidImage" (.inl "IndexError") false, xx "InvalidImage" (.inr "InvalidNumber") false, xx "InvalidImage" (.inr "InvalidMerge") false, xx "InvalidImage" (.inr "InvalidText") false, xx "InvalidImage" (.inr "TooMany") false, xx "InvalidEvent" (.inr "QueueError") true, xx "InvalidEvent" (.inr "Missing") false, xx "InvalidEvent" (.inr "NothingLeft") false, xx "InvalidEvent" (.inl "ValueError") true, xx "InvalidEvent" (.inl "LookupError") false, xx "InvalidEvent" (.inl "IndexError") false, xx "InvalidEvent" (.inr "InvalidNumber") false, xx "InvalidEvent" (.inr "InvalidMerge") false, xx "InvalidEvent" (.inr "InvalidText") false, xx "InvalidEvent" (.inr "TooMany") false, xx "InvalidWeight" (.inr "QueueError") true, xx "InvalidWeight" (.inr "Missing") false, xx "InvalidWeight" (.inr "NothingLeft") false, xx "InvalidWeight" (.inl "ValueError") true, xx "InvalidWeight" (.inl "LookupError") false, xx "InvalidWeight" (.inl "IndexError") false, xx "InvalidWeight" (.inr "InvalidNumber") false, xx "InvalidWeight" (.inr "InvalidMerge") false, xx "InvalidWeight" (.inr "InvalidText") false, xx "InvalidWeight" (.inr "TooMany") false, xx "InvalidWish" (.inr "QueueError") true, xx "InvalidWish" (.inr "Missing") false, xx "InvalidWish" (.inr "NothingLeft") false, xx "InvalidWish" (.inl "ValueError") true, xx "InvalidWish" (.inl "LookupError") false, xx "InvalidWish" (.inl "IndexError") false, xx "InvalidWish" (.inr "InvalidNumber") false, xx "InvalidWish" (.inr "InvalidMerge") false, xx "InvalidWish" (.inr "InvalidText") false, xx "InvalidWish" (.inr "TooMany") false, xx "InvalidChange" (.inr "QueueError") true, xx "InvalidChange" (.inr "Missing") false, xx "InvalidChange" (.inr "NothingLeft") false, xx "InvalidChange" (.inl "ValueError") true, xx "InvalidChange" (.inl "LookupError") false, xx "InvalidChange" (.inl "IndexError") false, xx "InvalidChange" (.inr "InvalidNumber") false, xx "InvalidChange" (.inr "InvalidMerge") false, xx "InvalidChange" (.inr "InvalidText") false, xx "InvalidChange" (.inr "TooMany") false, xx "InvalidOffer" (.inr "QueueError") true, xx "InvalidOffer" (.inr "Missing") false, xx "InvalidOffer" (.inr "NothingLeft") false, xx "InvalidOffer" (.inl "ValueError") true, xx "InvalidOffer" (.inl "LookupError") false, xx "InvalidOffer" (.inl "IndexError") false, xx "InvalidOffer" (.inr "InvalidNumber") false, xx "InvalidOffer" (.inr "InvalidMerge") false, xx "InvalidOffer" (.inr "InvalidText") false, xx "InvalidOffer" (.inr "TooMany") false, xx "InvalidLimit" (.inr "QueueError") true, xx "InvalidLimit" (.inr "Missing") false, xx "InvalidLimit" (.inr "NothingLeft") false, xx "InvalidLimit" (.inl "ValueError") true, xx "InvalidLimit" (.inl "LookupError") false, xx "InvalidLimit" (.inl "IndexError") false, xx "InvalidLimit" (.inr "InvalidNumber") false, xx "InvalidLimit" (.inr "InvalidMerge") false, xx "InvalidLimit" (.inr "InvalidText") false, xx "InvalidLimit" (.inr "TooMany") false, xx "InvalidCommand" (.inr "QueueError") true, xx "InvalidCommand" (.inr "Missing") false, xx "InvalidCommand" (.inr "NothingLeft") false, xx "InvalidCommand" (.inl "ValueError") true, xx "InvalidCommand" (.inl "LookupError") false, xx "InvalidCommand" (.inl "IndexError") false, xx "InvalidCommand" (.inr "InvalidNumber") false, xx "InvalidCommand" (.inr "InvalidMerge") false, xx "InvalidCommand" (.inr "InvalidText") false, xx "InvalidCommand" (.inr "TooMany") false, xx "DuplicateName" (.inr "QueueError") true, xx "DuplicateName" (.inr "Missing") false, xx "DuplicateName" (.inr "NothingLeft") false, xx "DuplicateName" (.inl "ValueError") true, xx "DuplicateName" (.inl "LookupError") false, xx "DuplicateName" (.inl "IndexError") false, xx "DuplicateName" (.inr "InvalidNumber") false, xx "DuplicateName" (.inr "InvalidMerge") false, xx "DuplicateName" (.inr "InvalidText") false, xx "DuplicateName" (.inr "TooMany") false, xx "TooMany" (.inr "QueueError") true, xx "TooMany" (.inr "Missing") false, xx "TooMany" (.inr "NothingLeft") false, xx "TooMany" (.inl "ValueError") true, xx "TooMany" (.inl "LookupError") false, xx "TooMany" (.inl "IndexError") false, xx "TooMany" (.inr "InvalidNumber") false, xx "TooMany" (.inr "InvalidMerge") false, xx "TooMany" (.inr "InvalidText") false, xx "TooMany" (.inr "TooMany") true, xx "Stuck" (.inr "QueueError") true, xx "Stuck" (.inr "Missing") false, xx "Stuck" (.inr "NothingLeft") false, xx "Stuck" (.inl "ValueError") true, xx "Stuck" (.inl "LookupError") false, xx "Stuck" (.inl "IndexError") false, xx "Stuck" (.inr "InvalidNumber") false, xx "Stuck" (.inr "InvalidMerge") false, xx "Stuck" (.inr "InvalidText") false, xx "Stuck" (.inr "TooMany") false, xx "NotNow" (.inr "QueueError") true, xx "NotNow" (.inr "Missing") false, xx "NotNow" (.inr "NothingLeft") false, xx "NotNow" (.inl "ValueError") true, xx "NotNow" (.inl "LookupError") false, xx "NotNow" (.inl "IndexError") false, xx "NotNow" (.inr "InvalidNumber") false, xx "NotNow" (.inr "InvalidMerge") false, xx "NotNow" (.inr "InvalidText") false, xx "NotNow" (.inr "TooMany") false, xx "NotComparable" (.inr "QueueError") true, xx "NotComparable" (.inr "Missing") false, xx "NotComparable" (.inr "NothingLeft") false, xx "NotComparable" (.inl "ValueError") true, xx "NotComparable" (.inl "LookupError") false, xx "NotComparable" (.inl "IndexError") false, xx "NotComparable" (.inr "InvalidNumber") false, xx "NotComparable" (.inr "InvalidMerge") false, xx "NotComparable" (.inr "InvalidText") false, xx "NotComparable" (.inr "TooMany") false, xx "Full" (.inr "QueueError") true, xx "Full" (.inr "Missing") false, xx "Full" (.inr "NothingLeft") false, xx "Full" (.inl "ValueError") true, xx "Full" (.inl "LookupError") false, xx "Full" (.inl "IndexError") false, xx "Full" (.inr "InvalidNumber") false, xx "Full" (.inr "InvalidMerge") false, xx "Full" (.inr "InvalidText") false, xx "Full" (.inr "TooMany") false, xx "UnknownName" (.inr "QueueError") false, xx "UnknownName" (.inr "Missing") true, xx "UnknownName" (.inr "NothingLeft") false, xx "UnknownName" (.inl "ValueError") false, xx "UnknownName" (.inl "LookupError") true, xx "UnknownName" (.inl "IndexError") false, xx "UnknownName" (.inr "InvalidNumber") false, xx "UnknownName" (.inr "InvalidMerge") false, xx "UnknownName" (.inr "InvalidText") false, xx "UnknownName" (.inr "TooMany") false, xx "NothingLeft" (.inr "QueueError") false, xx "NothingLeft" (.inr "Missing") false, xx "NothingLeft" (.inr "NothingLeft") true, xx "NothingLeft" (.inl "ValueError") false, xx "NothingLeft" (.inl "LookupError") true, xx "NothingLeft" (.inl "IndexError") true, xx "NothingLeft" (.inr "InvalidNumber") false, xx "NothingLeft" (.inr "InvalidMerge") false, xx "NothingLeft" (.inr "InvalidText") false, xx "NothingLeft" (.inr "TooMany") false]
def tb : IsTab := []
noncomputable def r__law_deal : Sn :=
  (rThen (rAsg (rLc (rItems (rSl (rV 0) (rOpt none) (rOpt (some (rC (.int 63)))))) [3] (bName 3) rTrue (rFun fInt (rCons (rV 3) rNil))) (bName 1))
  (rThen (rAsg (rOp2 opAdd (rC (.int 5760)) (rOp2 opMul (rC (.int 83)) (rFun fLen (rCons (rV 1) rNil)))) (bName 2))
  (rThen (rFor (rItems (rV 1)) (bName 3) (rAsg (rOp2 opMod (rFun fInt (rCons (rOp2 opAdd (rOp2 opMul (rV 2) (rC (.int 6521))) (rV 3)) rNil)) (rC (.int 2147483543))) (bName 2)))
  (rRet (rLstM (rCons (rV 1) (rCons (rC (.int 0)) (rCons (rC (.int 0)) (rCons (rV 2) rNil)))))))))
noncomputable def f__law_deal : Fn := fnM 4 r__law_deal
noncomputable def r__law_pick : Sn :=
  (rThen (rIfS (rB (rOp2 (opI fun i j => decide (i < j)) (rOp2 opIx (rV 0) (rC (.int 2))) (rC (.int 2)))) (rThen (rPut (rOp2 opAdd (rOp2 opIx (rV 0) (rC (.int 1))) (rC (.int 1))) (rV 0) (rC (.int 1)))
  (rThen (rAsg (rOp2 opAdd (rOp2 opIx (rV 0) (rC (.int 3))) (rOp2 opMul (rOp2 opIx (rV 0) (rC (.int 1))) (rC (.int 9157)))) (bName 3))
  (rThen (rIfS (rB (rOp2 (opI fun i j => decide (i ≤ j)) (rOp2 opIx (rV 0) (rC (.int 1))) (rFun fLen (rCons (rOp2 opIx (rV 0) (rC (.int 0))) rNil)))) (rAsg (rOp2 opIx (rOp2 opIx (rV 0) (rC (.int 0))) (rOp2 opSub (rOp2 opIx (rV 0) (rC (.int 1))) (rC (.int 1)))) (bName 3)) rNx)
  (rThen (rIfS (rOrT (rB (rOp2 (opI fun i j => decide (j < i)) (rOp2 opIx (rV 0) (rC (.int 1))) (rFun fLen (rCons (rOp2 opIx (rV 0) (rC (.int 0))) rNil)))) (rB (rOp2 (opI fun i j => decide (i < j)) (rV 3) (rOp2 opPow (rC (.int 10)) (rC (.int 18)))))) (rThen (rAsg (rOp2 opMod (rFun fInt (rCons (rOp2 opAdd (rOp2 opAdd (rOp2 opMul (rV 3) (rC (.int 41039))) (rOp2 opMul (rOp2 opIx (rV 0) (rC (.int 1))) (rC (.int 38561)))) (rOp2 opIx (rV 0) (rC (.int 3)))) rNil)) (rC (.int 2147483647))) (bName 4))
  (rThen (rAsg (rOp2 opMod (rFun fInt (rCons (rOp2 opAdd (rOp2 opMul (rV 4) (rV 4)) (rOp2 opMul (rOp2 opIx (rV 0) (rC (.int 1))) (rC (.int 51551)))) rNil)) (rC (.int 998244353))) (bName 5))
  (rRet (rOp2 opMod (rOp2 opDiv (rOp2 opMod (rFun fInt (rCons (rOp2 opAdd (rOp2 opMul (rV 5) (rC (.int 47917))) (rV 4)) rNil)) (rC (.int 2147483629))) (rC (.int 19))) (rV 1))))) rNx)
  (rPut (rV 3) (rV 0) (rC (.int 2))))))) rNx)
  (rThen (rAsg (rOp2 opMod (rFun fInt (rCons (rOp2 opIx (rV 0) (rC (.int 2))) rNil)) (rV 1)) (bName 2))
  (rThen (rPut (rOp2 opDiv (rFun fInt (rCons (rOp2 opIx (rV 0) (rC (.int 2))) rNil)) (rV 1)) (rV 0) (rC (.int 2)))
  (rRet (rV 2)))))
noncomputable def f__law_pick : Fn := fnM 6 r__law_pick
noncomputable def r__law_of : Sn :=
  (rRet (rOp2 opIx (rV 1) (rCall 2 f__law_pick [] (rCons (rV 0) (rCons (rFun fLen (rCons (rV 1) rNil)) rNil)))))
noncomputable def f__law_of : Fn := fn 2 r__law_of
noncomputable def r__law_made_errors : Sn :=
  (rThen (rAsg (rLst (rCons (rTup (rCons (rEx "InvalidName" 1 (mkD1 "InvalidName" "given") (rCons (rV 0) rNil)) (rCons (rC (.str "InvalidName")) rNil))) (rCons (rTup (rCons (rEx "InvalidNumber" 1 (mkD1 "InvalidNumber" "given") (rCons (rV 0) rNil)) (rCons (rC (.str "InvalidNumber")) rNil))) (rCons (rTup (rCons (rEx "InvalidBlocks" 1 (mkD1 "InvalidBlocks" "given") (rCons (rV 0) rNil)) (rCons (rC (.str "InvalidBlocks")) rNil))) (rCons (rTup (rCons (rEx "InvalidEvent" 1 (mkD1 "InvalidEvent" "given") (rCons (rV 0) rNil)) (rCons (rC (.str "InvalidEvent")) rNil))) (rCons (rTup (rCons (rEx "InvalidWeight" 1 (mkD1 "InvalidWeight" "given") (rCons (rV 0) rNil)) (rCons (rC (.str "InvalidWeight")) rNil))) (rCons (rTup (rCons (rEx "InvalidLimit" 1 (mkD1 "InvalidLimit" "given") (rCons (rV 0) rNil)) (rCons (rC (.str "InvalidLimit")) rNil))) rNil))))))) (bName 1))
  (rThen (rAsg (rLst (rCons (rTup (rCons (rEx "InvalidText" 1 (mkD1 "InvalidText" "at") (rCons (rV 0) rNil)) (rCons (rC (.str "InvalidText")) rNil))) (rCons (rTup (rCons (rEx "InvalidStep" 1 (mkD1 "InvalidStep" "at") (rCons (rV 0) rNil)) (rCons (rC (.str "InvalidStep")) rNil))) (rCons (rTup (rCons (rEx "InvalidAction" 1 (mkD1 "InvalidAction" "at") (rCons (rV 0) rNil)) (rCons (rC (.str "InvalidAction")) rNil))) (rCons (rTup (rCons (rEx "InvalidImage" 1 (mkD1 "InvalidImage" "at") (rCons (rV 0) rNil)) (rCons (rC (.str "InvalidImage")) rNil))) (rCons (rTup (rCons (rEx "InvalidChange" 1 (mkD1 "InvalidChange" "at") (rCons (rV 0) rNil)) (rCons (rC (.str "InvalidChange")) rNil))) (rCons (rTup (rCons (rEx "InvalidOffer" 1 (mkD1 "InvalidOffer" "at") (rCons (rV 0) rNil)) (rCons (rC (.str "InvalidOffer")) rNil))) (rCons (rTup (rCons (rEx "InvalidCommand" 1 (mkD1 "InvalidCommand" "at") (rCons (rV 0) rNil)) (rCons (rC (.str "InvalidCommand")) rNil))) (rCons (rTup (rCons (rEx "NotNow" 1 (mkD1 "NotNow" "at") (rCons (rV 0) rNil)) (rCons (rC (.str "NotNow")) rNil))) rNil))))))))) (bName 2))
  (rThen (rAsg (rLst (rCons (rTup (rCons (rEx "InvalidMerge" 1 (mkD1 "InvalidMerge" "name") (rCons (rV 0) rNil)) (rCons (rC (.str "InvalidMerge")) rNil))) (rCons (rTup (rCons (rEx "DuplicateName" 1 (mkD1 "DuplicateName" "name") (rCons (rV 0) rNil)) (rCons (rC (.str "DuplicateName")) rNil))) rNil))) (bName 3))
  (rThen (rAsg (rLst (rCons (rTup (rCons (rEx "InvalidWish" 0 (mkD0 "InvalidWish") rNil) (rCons (rC (.str "InvalidWish")) rNil))) (rCons (rTup (rCons (rEx "NotComparable" 0 (mkD0 "NotComparable") rNil) (rCons (rC (.str "NotComparable")) rNil))) rNil))) (bName 4))
  (rRet (rTup (rCons (rV 1) (rCons (rV 2) (rCons (rV 3) (rCons (rV 4) rNil))))))))))
noncomputable def f__law_made_errors : Fn := fn 5 r__law_made_errors
noncomputable def r__law_same (g : Fn) : Sn :=
  (rThen (rIfS (rB (rOp2 (opIsN false) (rV 1) (rC .non))) (rRet (rOp2 (opIsN false) (rV 0) (rC .non))) rNx)
  (rThen (rIfS (rOrT (rB (rFun (fIsi tb) (rCons (rV 1) (rCons (rC (.ty "bool")) rNil)))) (rB (rFun (fIsi tb) (rCons (rV 0) (rCons (rC (.ty "bool")) rNil))))) (rRet (rAndV (rFun (fIsi tb) (rCons (rV 1) (rCons (rC (.ty "bool")) rNil))) (rAndV (rFun (fIsi tb) (rCons (rV 0) (rCons (rC (.ty "bool")) rNil))) (rOp2 (opEq false) (rV 0) (rV 1))))) rNx)
  (rThen (rIfS (rB (rFun (fIsi tb) (rCons (rV 1) (rCons (rTup (rCons (rC (.ty "int")) (rCons (rC (.ty "str")) rNil))) rNil)))) (rRet (rAndV (rFun (fIsi tb) (rCons (rV 0) (rCons (rTup (rCons (rC (.ty "int")) (rCons (rC (.ty "str")) rNil))) rNil))) (rAndV (rOp2 (opEq false) (rFun (fIsi tb) (rCons (rV 0) (rCons (rC (.ty "int")) rNil))) (rFun (fIsi tb) (rCons (rV 1) (rCons (rC (.ty "int")) rNil)))) (rOp2 (opEq false) (rV 0) (rV 1))))) rNx)
  (rThen (rIfS (rOrT (rB (rOp2 (opEq true) (rFun (fIsi tb) (rCons (rV 1) (rCons (rC (.ty "list")) rNil))) (rFun (fIsi tb) (rCons (rV 0) (rCons (rC (.ty "list")) rNil))))) (rB (rOp2 (opEq true) (rFun (fIsi tb) (rCons (rV 1) (rCons (rC (.ty "tuple")) rNil))) (rFun (fIsi tb) (rCons (rV 0) (rCons (rC (.ty "tuple")) rNil)))))) (rRet (rC (.bl false))) rNx)
  (rRet (rAndV (rOp2 (opEq false) (rFun fLen (rCons (rV 0) rNil)) (rFun fLen (rCons (rV 1) rNil))) (rFun (fAll false) (rCons (rLc (rZipA (rCons (rV 0) (rCons (rV 1) rNil))) [2, 3] (bTup [2, 3]) rTrue (rCall 2 g [] (rCons (rV 2) (rCons (rV 3) rNil)))) rNil))))))))
noncomputable def f__law_same : Nat → Fn
  | 0 => fun _ _ => .stuck
  | n + 1 => fn 4 (r__law_same (f__law_same n))
noncomputable def r__law_bases : Sn :=
  (rRet (rLst (rCons (rFun (fIsx xtb) (rCons (rV 0) (rCons (rC (.cls "QueueError")) rNil))) (rCons (rFun (fIsx xtb) (rCons (rV 0) (rCons (rC (.cls "Missing")) rNil))) (rCons (rFun (fIsx xtb) (rCons (rV 0) (rCons (rC (.cls "NothingLeft")) rNil))) (rCons (rFun (fIsx xtb) (rCons (rV 0) (rCons (rC (.ty "ValueError")) rNil))) (rCons (rFun (fIsx xtb) (rCons (rV 0) (rCons (rC (.ty "LookupError")) rNil))) (rCons (rFun (fIsx xtb) (rCons (rV 0) (rCons (rC (.ty "IndexError")) rNil))) rNil))))))))
noncomputable def f__law_bases : Fn := fn 1 r__law_bases
noncomputable def r_law : Sn :=
  (rThen (rAsg (rCall 1 f__law_deal [] (rCons (rV 0) rNil)) (bName 1))
  (rThen (rAsg (rCall 2 f__law_of [] (rCons (rV 1) (rCons (rLst (rCons (rCall 2 f__law_pick [] (rCons (rV 1) (rCons (rOp2 opPow (rC (.int 10)) (rC (.int 9))) rNil))) (rCons (rOp2 opSub (rOp2 opSub (rC (.int 0)) (rC (.int 1))) (rCall 2 f__law_pick [] (rCons (rV 1) (rCons (rC (.int 9)) rNil)))) (rCons (rC (.str "late")) (rCons (rC .non) (rCons (rTup (rCons (rC (.int 1)) (rCons (rC (.str "a")) rNil))) rNil)))))) rNil))) (bName 2))
  (rThen (rAsg (rCall 1 f__law_made_errors [] (rCons (rV 2) rNil)) (bTup [6, 7, 8, 9]))
  (rThen (rAsg (rLcM (rItems (rV 6)) [15, 16] (bTup [15, 16]) rTrue (rCall 2 (f__law_same 4) [] (rCons (rLst (rCons (rU (opXf ["InvalidName", "InvalidNumber", "InvalidBlocks", "InvalidText", "InvalidStep", "InvalidMerge", "InvalidAction", "InvalidImage", "InvalidEvent", "InvalidWeight", "InvalidWish", "InvalidChange", "InvalidOffer", "InvalidLimit", "InvalidCommand", "DuplicateName", "TooMany", "Stuck", "NotNow", "NotComparable", "Full", "UnknownName", "NothingLeft"] "code") (rV 15)) (rCons (rU (opXf ["InvalidName", "InvalidNumber", "InvalidBlocks", "InvalidEvent", "InvalidWeight", "InvalidLimit"] "given") (rV 15)) rNil))) (rCons (rLst (rCons (rV 16) (rCons (rV 2) rNil))) rNil)))) (bName 3))
  (rThen (rAsg (rOp2 opAddM (rV 3) (rLc (rItems (rV 7)) [15, 16] (bTup [15, 16]) rTrue (rCall 2 (f__law_same 4) [] (rCons (rLst (rCons (rU (opXf ["InvalidName", "InvalidNumber", "InvalidBlocks", "InvalidText", "InvalidStep", "InvalidMerge", "InvalidAction", "InvalidImage", "InvalidEvent", "InvalidWeight", "InvalidWish", "InvalidChange", "InvalidOffer", "InvalidLimit", "InvalidCommand", "DuplicateName", "TooMany", "Stuck", "NotNow", "NotComparable", "Full", "UnknownName", "NothingLeft"] "code") (rV 15)) (rCons (rU (opXf ["InvalidText", "InvalidStep", "InvalidAction", "InvalidImage", "InvalidChange", "InvalidOffer", "InvalidCommand", "NotNow"] "at") (rV 15)) rNil))) (rCons (rLst (rCons (rV 16) (rCons (rV 2) rNil))) rNil))))) (bName 3))
  (rThen (rAsg (rOp2 opAddM (rV 3) (rLc (rItems (rV 8)) [15, 16] (bTup [15, 16]) rTrue (rCall 2 (f__law_same 4) [] (rCons (rLst (rCons (rU (opXf ["InvalidName", "InvalidNumber", "InvalidBlocks", "InvalidText", "InvalidStep", "InvalidMerge", "InvalidAction", "InvalidImage", "InvalidEvent", "InvalidWeight", "InvalidWish", "InvalidChange", "InvalidOffer", "InvalidLimit", "InvalidCommand", "DuplicateName", "TooMany", "Stuck", "NotNow", "NotComparable", "Full", "UnknownName", "NothingLeft"] "code") (rV 15)) (rCons (rU (opXf ["InvalidMerge", "DuplicateName", "UnknownName"] "name") (rV 15)) rNil))) (rCons (rLst (rCons (rV 16) (rCons (rV 2) rNil))) rNil))))) (bName 3))
  (rThen (rAsg (rOp2 opAddM (rV 3) (rLc (rItems (rV 9)) [15, 16] (bTup [15, 16]) rTrue (rCall 2 (f__law_same 4) [] (rCons (rU (opXf ["InvalidName", "InvalidNumber", "InvalidBlocks", "InvalidText", "InvalidStep", "InvalidMerge", "InvalidAction", "InvalidImage", "InvalidEvent", "InvalidWeight", "InvalidWish", "InvalidChange", "InvalidOffer", "InvalidLimit", "InvalidCommand", "DuplicateName", "TooMany", "Stuck", "NotNow", "NotComparable", "Full", "UnknownName", "NothingLeft"] "code") (rV 15)) (rCons (rV 16) rNil))))) (bName 3))
  (rThen (rPar3 10 11 12 (rCons (rEx "TooMany" 2 (mkD2 "TooMany" "subject" "most") (rCons (rC (.str "late")) (rCons (rV 2) rNil))) (rCons (rEx "Stuck" 1 (mkD1 "Stuck" "ring") (rCons (rLst (rCons (rV 2) rNil)) rNil)) (rCons (rEx "Full" 1 (mkD1 "Full" "most") (rCons (rV 2) rNil)) rNil))))
  (rThen (rPar 13 14 (rCons (rEx "UnknownName" 1 (mkD1 "UnknownName" "name") (rCons (rV 2) rNil)) (rCons (rEx "NothingLeft" 0 (mkD0 "NothingLeft") rNil) rNil)))
  (rThen (rDrop (rMt "list" fAppend (rV 3) (rCons (rCall 2 (f__law_same 4) [] (rCons (rLst (rCons (rU (opXf ["InvalidName", "InvalidNumber", "InvalidBlocks", "InvalidText", "InvalidStep", "InvalidMerge", "InvalidAction", "InvalidImage", "InvalidEvent", "InvalidWeight", "InvalidWish", "InvalidChange", "InvalidOffer", "InvalidLimit", "InvalidCommand", "DuplicateName", "TooMany", "Stuck", "NotNow", "NotComparable", "Full", "UnknownName", "NothingLeft"] "code") (rV 10)) (rCons (rU (opXf ["TooMany"] "subject") (rV 10)) (rCons (rU (opXf ["TooMany", "Full"] "most") (rV 10)) (rCons (rU (opXf ["InvalidName", "InvalidNumber", "InvalidBlocks", "InvalidText", "InvalidStep", "InvalidMerge", "InvalidAction", "InvalidImage", "InvalidEvent", "InvalidWeight", "InvalidWish", "InvalidChange", "InvalidOffer", "InvalidLimit", "InvalidCommand", "DuplicateName", "TooMany", "Stuck", "NotNow", "NotComparable", "Full", "UnknownName", "NothingLeft"] "code") (rV 11)) (rCons (rU (opXf ["Stuck"] "ring") (rV 11)) (rCons (rU (opXf ["InvalidName", "InvalidNumber", "InvalidBlocks", "InvalidText", "InvalidStep", "InvalidMerge", "InvalidAction", "InvalidImage", "InvalidEvent", "InvalidWeight", "InvalidWish", "InvalidChange", "InvalidOffer", "InvalidLimit", "InvalidCommand", "DuplicateName", "TooMany", "Stuck", "NotNow", "NotComparable", "Full", "UnknownName", "NothingLeft"] "code") (rV 12)) (rCons (rU (opXf ["TooMany", "Full"] "most") (rV 12)) rNil)))))))) (rCons (rLst (rCons (rC (.str "TooMany")) (rCons (rC (.str "late")) (rCons (rV 2) (rCons (rC (.str "Stuck")) (rCons (rLst (rCons (rV 2) rNil)) (rCons (rC (.str "Full")) (rCons (rV 2) rNil)))))))) rNil))) rNil)))
  (rThen (rDrop (rMt "list" fAppend (rV 3) (rCons (rCall 2 (f__law_same 4) [] (rCons (rLst (rCons (rU (opXf ["InvalidName", "InvalidNumber", "InvalidBlocks", "InvalidText", "InvalidStep", "InvalidMerge", "InvalidAction", "InvalidImage", "InvalidEvent", "InvalidWeight", "InvalidWish", "InvalidChange", "InvalidOffer", "InvalidLimit", "InvalidCommand", "DuplicateName", "TooMany", "Stuck", "NotNow", "NotComparable", "Full", "UnknownName", "NothingLeft"] "code") (rV 13)) (rCons (rU (opXf ["InvalidMerge", "DuplicateName", "UnknownName"] "name") (rV 13)) (rCons (rU (opXf ["InvalidName", "InvalidNumber", "InvalidBlocks", "InvalidText", "InvalidStep", "InvalidMerge", "InvalidAction", "InvalidImage", "InvalidEvent", "InvalidWeight", "InvalidWish", "InvalidChange", "InvalidOffer", "InvalidLimit", "InvalidCommand", "DuplicateName", "TooMany", "Stuck", "NotNow", "NotComparable", "Full", "UnknownName", "NothingLeft"] "code") (rV 14)) rNil)))) (rCons (rLst (rCons (rC (.str "UnknownName")) (rCons (rV 2) (rCons (rC (.str "NothingLeft")) rNil)))) rNil))) rNil)))
  (rThen (rIfS (rNotT (rB (rFun (fAll false) (rCons (rV 3) rNil)))) (rRet (rC (.bl false))) rNx)
  (rThen (rAsg (rOp2 opAdd (rLc (rItems (rOp2 opAdd (rOp2 opAdd (rOp2 opAdd (rV 6) (rV 7)) (rV 8)) (rV 9))) [17] (bName 17) rTrue (rOp2 opIx (rV 17) (rC (.int 0)))) (rLst (rCons (rV 10) (rCons (rV 11) (rCons (rV 12) rNil))))) (bName 4))
  (rThen (rIfS (rNotT (rB (rFun (fAll false) (rCons (rLc (rItems (rV 4)) [15] (bName 15) rTrue (rOp2 (opEq false) (rCall 1 f__law_bases [] (rCons (rV 15) rNil)) (rLst (rCons (rC (.bl true)) (rCons (rC (.bl false)) (rCons (rC (.bl false)) (rCons (rC (.bl true)) (rCons (rC (.bl false)) (rCons (rC (.bl false)) rNil))))))))) rNil)))) (rRet (rC (.bl false))) rNx)
  (rThen (rIfS (rB (rOp2 (opEq true) (rCall 1 f__law_bases [] (rCons (rV 13) rNil)) (rLst (rCons (rC (.bl false)) (rCons (rC (.bl true)) (rCons (rC (.bl false)) (rCons (rC (.bl false)) (rCons (rC (.bl true)) (rCons (rC (.bl false)) rNil))))))))) (rRet (rC (.bl false))) rNx)
  (rThen (rIfS (rB (rOp2 (opEq true) (rCall 1 f__law_bases [] (rCons (rV 14) rNil)) (rLst (rCons (rC (.bl false)) (rCons (rC (.bl false)) (rCons (rC (.bl true)) (rCons (rC (.bl false)) (rCons (rC (.bl true)) (rCons (rC (.bl true)) rNil))))))))) (rRet (rC (.bl false))) rNx)
  (rThen (rAsg (rExK "TooMany" 2 2 [.k 1, .k 0] (mkD2 "TooMany" "subject" "most") (rCons (rC (.int 3)) (rCons (rC (.str "x")) rNil))) (bName 5))
  (rRet (rAndV (rCall 2 (f__law_same 4) [] (rCons (rLst (rCons (rU (opXf ["TooMany"] "subject") (rV 5)) (rCons (rU (opXf ["TooMany", "Full"] "most") (rV 5)) (rCons (rU (opXf ["InvalidName", "InvalidNumber", "InvalidBlocks", "InvalidEvent", "InvalidWeight", "InvalidLimit"] "given") (rExK "InvalidName" 1 1 [.k 0] (mkD1 "InvalidName" "given") (rCons (rV 2) rNil))) rNil)))) (rCons (rLst (rCons (rC (.str "x")) (rCons (rC (.int 3)) (rCons (rV 2) rNil)))) rNil))) (rAndV (rNotV (rFun (fIsx xtb) (rCons (rOp2 opIx (rOp2 opIx (rV 6) (rC (.int 0))) (rC (.int 0))) (rCons (rC (.cls "InvalidNumber")) rNil)))) (rAndV (rNotV (rFun (fIsx xtb) (rCons (rOp2 opIx (rOp2 opIx (rV 8) (rC (.int 1))) (rC (.int 0))) (rCons (rC (.cls "InvalidMerge")) rNil)))) (rAndV (rNotV (rFun (fIsx xtb) (rCons (rOp2 opIx (rOp2 opIx (rV 7) (rC (.int 3))) (rC (.int 0))) (rCons (rC (.cls "InvalidText")) rNil)))) (rNotV (rFun (fIsx xtb) (rCons (rV 12) (rCons (rC (.cls "TooMany")) rNil))))))))))))))))))))))))))
noncomputable def f_law : Fn := fn 18 r_law
end K01

namespace K01
open PySem Q
def IsDeal (l : Nat) (M : MS) : Prop := ∃ (cs : List Int) (k z m : Int), 0 ≤ k ∧ M[l]? = some (.lst [.lst (cs.map D.int), .int k, .int z, .int m])
theorem at0 {α : Type} {a b c d : α} : L2.atI [a, b, c, d] 0 = some a := rfl
theorem at1 {α : Type} {a b c d : α} : L2.atI [a, b, c, d] 1 = some b := rfl
theorem at2 {α : Type} {a b c d : α} : L2.atI [a, b, c, d] 2 = some c := rfl
theorem at3 {α : Type} {a b c d : α} : L2.atI [a, b, c, d] 3 = some d := rfl
theorem ix41 : L2.ixN (0 + 1 + 1 + 1 + 1) 1 = some 1 := rfl
theorem ix42 : L2.ixN (0 + 1 + 1 + 1 + 1) 2 = some 2 := rfl
theorem opPow18 {M : MS} : opPow (.int 10) (.int 18) M = .ok (.int 1000000000000000000) M := rfl
theorem lw1 : low64 9157 = true := by decide
theorem lw2 : low64 41039 = true := by decide
theorem lw3 : low64 38561 = true := by decide
theorem lw4 : low64 51551 = true := by decide
theorem lw5 : low64 47917 = true := by decide
theorem lw6 (x : Int) : low64 (x % 2147483647) = true := by
  unfold low64
  have := Int.emod_nonneg x (show (2147483647 : Int) ≠ 0 by decide)
  have := Int.emod_lt_of_pos x (show (0 : Int) < 2147483647 by decide)
  exact decide_eq_true ⟨by omega, by omega⟩
theorem ps1 : (0 : Int) < 2147483647 := by decide
theorem ps2 : (0 : Int) < 998244353 := by decide
theorem ps3 : (0 : Int) < 2147483629 := by decide
theorem ps4 : (0 : Int) < 19 := by decide
theorem ps5 : (19 : Int) < 1073741824 := by decide
theorem pick_ok {l : Nat} {M : MS} {many : Int} (h : IsDeal l M) (h1 : 1 ≤ many) (h2 : many < 1073741824) : ∃ v mo, f__law_pick [.ref l, .int many] M = .ok (.int v) (M.set l mo) ∧ 0 ≤ v ∧ v < many ∧ IsDeal l (M.set l mo) := by
  obtain ⟨cs, k, z, m, hk, hM⟩ := h
  have hl : l < M.length := by
    rcases Nat.lt_or_ge l M.length with q | q
    · exact q
    · rw [List.getElem?_eq_none q] at hM; cases hM
  have st : ∀ x : MO, (M.set l x)[l]? = some x := fun x => List.getElem?_set_self hl
  have ss : ∀ x y : MO, (M.set l x).set l y = M.set l y := fun x y => List.set_set ..
  have hm0 : (0 < many) := by omega
  have last : ∀ x : Int, 0 ≤ x % many ∧ x % many < many := fun x => ⟨Int.emod_nonneg _ (by omega), Int.emod_lt_of_pos _ hm0⟩
  have fin : ∀ (k' z' : Int), 0 ≤ k' → (∃ x, f__law_pick [.ref l, .int many] M = .ok (.int (x % many)) (M.set l (.lst [.lst (cs.map D.int), .int k', .int z', .int m]))) → ∃ v mo, f__law_pick [.ref l, .int many] M = .ok (.int v) (M.set l mo) ∧ 0 ≤ v ∧ v < many ∧ IsDeal l (M.set l mo) :=
    fun k' z' hk' ⟨x, e⟩ => ⟨_, _, e, (last x).1, (last x).2, cs, k', z', m, hk', st _⟩
  by_cases hz : z < 2
  · by_cases hc : k + 1 ≤ (cs.length : Int)
    · have hc' : ¬ (cs.length : Int) < k + 1 := by omega
      obtain ⟨c0, h0⟩ : ∃ c0, L2.atI (cs.map D.int) (k + 1 - 1) = some (.int c0) := by
        unfold L2.atI L2.ixN
        have hx : k.toNat < cs.length := by omega
        rw [if_pos (by omega), if_pos (by simp; omega)]
        refine ⟨cs[k.toNat], ?_⟩
        show (cs.map D.int)[(k + 1 - 1).toNat]? = _
        have : (k + 1 - 1).toNat = k.toNat := by omega
        rw [this, List.getElem?_map, List.getElem?_eq_getElem hx]
        rfl
      by_cases hb : c0 < 1000000000000000000
      · exact fin (k + 1) z (by omega) ⟨_, by simp (config := {decide := false}) only [f__law_pick, fnM, r__law_pick, rThen, rIfS, rB, rOp2, rV, rC, rPut, rAsg, rRet, rFun, rCons, rNil, rNx, rOrT, Res.bind, bindS, toB, opIx, lstOf, opI, opAdd, opSub, opMul_r, opMod_pos, opDiv_pos, opPow18, ps1, ps2, ps3, ps4, ps5, lw1, lw2, lw3, lw4, lw5, lw6, fLen, fInt, bName, endF, ix41, ix42, List.length_map, gt_iff_lt, List.map_cons, List.map_nil, List.length_cons, List.length_nil, at0, at1, at2, at3, List.getElem?_cons_zero, List.getElem?_cons_succ, List.cons_append, List.nil_append, List.replicate, List.set, decide_true, decide_false, if_true, if_false, ite_true, ite_false, Bool.false_eq_true, Bool.or_true, Bool.true_or, Bool.or_false, hM, st, ss, hz, hc, hc', hm0, h0, hb]; rfl⟩
      · exact fin (k + 1) (c0 / many) (by omega) ⟨c0, by simp (config := {decide := false}) only [f__law_pick, fnM, r__law_pick, rThen, rIfS, rB, rOp2, rV, rC, rPut, rAsg, rRet, rFun, rCons, rNil, rNx, rOrT, Res.bind, bindS, toB, opIx, lstOf, opI, opAdd, opSub, opMul_r, opMod_pos, opDiv_pos, opPow18, ps1, ps2, ps3, ps4, ps5, lw1, lw2, lw3, lw4, lw5, lw6, fLen, fInt, bName, endF, ix41, ix42, List.length_map, gt_iff_lt, List.map_cons, List.map_nil, List.length_cons, List.length_nil, at0, at1, at2, at3, List.getElem?_cons_zero, List.getElem?_cons_succ, List.cons_append, List.nil_append, List.replicate, List.set, decide_true, decide_false, if_true, if_false, ite_true, ite_false, Bool.false_eq_true, Bool.or_true, Bool.true_or, Bool.or_false, hM, st, ss, hz, hc, hc', hm0, h2, h0, hb]⟩
    · have hc' : (cs.length : Int) < k + 1 := by omega
      exact fin (k + 1) z (by omega) ⟨_, by simp (config := {decide := false}) only [f__law_pick, fnM, r__law_pick, rThen, rIfS, rB, rOp2, rV, rC, rPut, rAsg, rRet, rFun, rCons, rNil, rNx, rOrT, Res.bind, bindS, toB, opIx, lstOf, opI, opAdd, opSub, opMul_r, opMod_pos, opDiv_pos, opPow18, ps1, ps2, ps3, ps4, ps5, lw1, lw2, lw3, lw4, lw5, lw6, fLen, fInt, bName, endF, ix41, ix42, List.length_map, gt_iff_lt, List.map_cons, List.map_nil, List.length_cons, List.length_nil, at0, at1, at2, at3, List.getElem?_cons_zero, List.getElem?_cons_succ, List.cons_append, List.nil_append, List.replicate, List.set, decide_true, decide_false, if_true, if_false, ite_true, ite_false, Bool.false_eq_true, Bool.or_true, Bool.true_or, Bool.or_false, hM, st, ss, hz, hc, hc', hm0]; rfl⟩
  · exact fin k (z / many) hk ⟨z, by simp (config := {decide := false}) only [f__law_pick, fnM, r__law_pick, rThen, rIfS, rB, rOp2, rV, rC, rPut, rAsg, rRet, rFun, rCons, rNil, rNx, rOrT, Res.bind, bindS, toB, opIx, lstOf, opI, opAdd, opSub, opMul_r, opMod_pos, opDiv_pos, opPow18, ps1, ps2, ps3, ps4, ps5, lw1, lw2, lw3, lw4, lw5, lw6, fLen, fInt, bName, endF, ix41, ix42, List.length_map, gt_iff_lt, List.map_cons, List.map_nil, List.length_cons, List.length_nil, at0, at1, at2, at3, List.getElem?_cons_zero, List.getElem?_cons_succ, List.cons_append, List.nil_append, List.replicate, List.set, decide_true, decide_false, if_true, if_false, ite_true, ite_false, Bool.false_eq_true, Bool.or_true, Bool.true_or, Bool.or_false, hM, st, ss, hz, hm0, h2]⟩
theorem lw7 : low64 83 = true := by decide
theorem lw8 : low64 6521 = true := by decide
theorem ps6 : (0 : Int) < 2147483543 := by decide
theorem deal_ok {ns : List Int} (hl : ns.length ≤ 63) : ∃ M', f__law_deal [.scr (ns.map D.int)] [] = .ok (.ref 0) M' ∧ IsDeal 0 M' ∧ M'.length = 1 := by
  have h1 : ∀ ρ : Ev, loopC ρ (bName 3) rTrue (rFun fInt (rCons (rV 3) rNil)) (ns.map D.int) [] = .ok (ns.map D.int) [] ∨ ρ.length ≠ 4 := fun ρ => by
    by_cases q : ρ.length = 4
    · refine .inl ((loopC_map (fun d => d) _ fun d m => ?_).trans (by rw [List.map_id']))
      obtain ⟨n, _, rfl⟩ := List.mem_map.mp m
      refine ⟨ρ.set 3 (some (.int n)), rfl, ?_⟩
      have e : (ρ.set 3 (some (D.int n)))[3]? = some (some (D.int n)) := List.getElem?_set_self (by omega)
      simp only [rFun, rCons, rV, rNil, e, Res.bind, fInt]
    · exact .inr q
  have h2 : ∀ (ms : List Int) (x3 : Option D) (m : Int), ∃ ρ' M', loopF (bName 3) (rAsg (rOp2 opMod (rFun fInt (rCons (rOp2 opAdd (rOp2 opMul (rV 2) (rC (.int 6521))) (rV 3)) rNil)) (rC (.int 2147483543))) (bName 2)) (ms.map D.int) [some (.scr (ns.map D.int)), some (.lst (ns.map D.int)), some (.int m), x3] [] = .nx ρ' M' ∧ (M' = [] ∧ ∃ (m : Int) (y : Option D), ρ' = [some (.scr (ns.map D.int)), some (.lst (ns.map D.int)), some (.int m), y]) := fun ms x3 m => by
    refine loopF_all (fun ρ M => M = [] ∧ ∃ (m : Int) (y : Option D), ρ = [some (.scr (ns.map D.int)), some (.lst (ns.map D.int)), some (.int m), y]) _ _ _ ⟨rfl, m, x3, rfl⟩ ?_
    rintro d hd ρ M ⟨rfl, m, y, rfl⟩
    obtain ⟨n, _, rfl⟩ := List.mem_map.mp hd
    refine ⟨_, rfl, [some (.scr (ns.map D.int)), some (.lst (ns.map D.int)), some (.int ((m * 6521 + n) % 2147483543)), some (.int n)], [], ?_, rfl, _, _, rfl⟩
    simp only [bName, rAsg, rOp2, rFun, rCons, rV, rC, rNil, Res.bind, bindS, fInt, opAdd, opMul_r lw8, opMod_pos ps6, List.set, List.getElem?_cons_zero, List.getElem?_cons_succ]
  obtain ⟨ρ', M', e1, rfl, m, y, rfl⟩ := h2 ns none (5760 + 83 * (ns.length : Int))
  have l4 : loopC [some (D.scr (ns.map D.int)), none, none, none] (bName 3) rTrue (rFun fInt (rCons (rV 3) rNil)) (ns.map D.int) [] = .ok (ns.map D.int) [] := (h1 _).resolve_right (by simp)
  have sm : small ns.length = true := by unfold small; simp; omega
  have cut : cutD (ns.map D.int) none (some 63) = ns.map D.int := cut_head (n := 63) (by simpa using hl)
  refine ⟨[.lst [.lst (ns.map D.int), .int 0, .int 0, .int m]], ?_, ⟨ns, 0, 0, m, by omega, rfl⟩, rfl⟩
  simp only [f__law_deal, fnM, r__law_deal, rThen, rAsg, rLc, rComp, rItems, rSl, rOpt, rV, rC, Res.bind, opSl, lstOf, cut, itemsOf, rGuard, sm, wipeE, List.map_cons, List.map_nil, List.cons_append, List.nil_append, List.replicate, List.length_cons, List.length_nil, List.getElem?_cons_zero, List.getElem?_cons_succ, List.set, l4, bindS, bName, rOp2, rFun, rCons, rNil, fLen, List.length_map, opMul_l lw7, opAdd, if_true, e1, rFor, rRet, rLstM, endF]
  rfl
/-- drawn from the deal at l -/
def DealTo (l : Nat) (M M' : MS) : Prop := ∃ mo, M' = M.set l mo ∧ IsDeal l M'
theorem IsDeal.lt {l : Nat} {M : MS} (h : IsDeal l M) : l < M.length := by
  obtain ⟨_, _, _, _, _, hM⟩ := h
  exact (List.getElem?_eq_some_iff.mp hM).1
theorem DealTo.trans {l : Nat} {M M1 M2 : MS} (h : DealTo l M M1) (k : DealTo l M1 M2) : DealTo l M M2 := by
  obtain ⟨a, rfl, _⟩ := h
  obtain ⟨b, rfl, k⟩ := k
  exact ⟨b, List.set_set .., by rw [List.set_set] at k ⊢; exact k⟩
theorem DealTo.refl {l : Nat} {M : MS} (h : IsDeal l M) : DealTo l M M := by
  obtain ⟨cs, k, z, m, hk, hM⟩ := h
  have hl := (List.getElem?_eq_some_iff.mp hM).1
  refine ⟨M[l], by rw [List.set_getElem_self], cs, k, z, m, hk, hM⟩
theorem DealTo.len {l : Nat} {M M' : MS} (h : DealTo l M M') : M'.length = M.length := by
  obtain ⟨mo, rfl, _⟩ := h
  simp
theorem IsDeal.app {l : Nat} {M N : MS} (h : IsDeal l M) : IsDeal l (M ++ N) := by
  have hl := h.lt
  obtain ⟨cs, k, z, m, hk, hM⟩ := h
  exact ⟨cs, k, z, m, hk, by rw [List.getElem?_append_left hl]; exact hM⟩
theorem DealTo.mo {l : Nat} {M : MS} {mo : MO} (hl : l < M.length) (h : IsDeal l (M.set l mo)) : ∃ (cs : List Int) (k z m : Int), mo = .lst [.lst (cs.map D.int), .int k, .int z, .int m] := by
  obtain ⟨cs, k, z, m, _, hM⟩ := h
  rw [List.getElem?_set_self hl] at hM
  exact ⟨cs, k, z, m, Option.some.inj hM⟩
theorem DealTo.calm {l : Nat} {M M' : MS} (h : IsDeal l M) (d : DealTo l M M') (c : calmM M) : calmM M' := by
  obtain ⟨mo, rfl, k⟩ := d
  obtain ⟨cs, k', z, m, rfl⟩ := DealTo.mo h.lt k
  exact calm_set c ⟨pureL.calm (pureL_map (fun _ => rfl) cs), trivial, trivial, trivial, trivial⟩
theorem DealTo.trim {l : Nat} {M M' N : MS} {d : D} (h : IsDeal l M) (k : DealTo l M M') (b : below M.length d) : trim M (.ok d (M' ++ N)) = .ok d M' := by
  obtain ⟨mo, rfl, k⟩ := k
  obtain ⟨cs, k', z, m, rfl⟩ := DealTo.mo h.lt k
  exact trim_set ⟨pureL.below (pureL_map (fun _ => rfl) cs), trivial, trivial, trivial, trivial⟩ b
theorem DealTo.trim0 {l : Nat} {M M' : MS} {d : D} (k : DealTo l M M') : Q.trim M (.ok d M') = .ok d M' := trim_same k.len
theorem pick_to {l : Nat} {M : MS} {many : Int} (h : IsDeal l M) (h1 : 1 ≤ many) (h2 : many < 1073741824) : ∃ v M', f__law_pick [.ref l, .int many] M = .ok (.int v) M' ∧ 0 ≤ v ∧ v < many ∧ DealTo l M M' ∧ IsDeal l M' := by
  obtain ⟨v, mo, e, h3, h4, h5⟩ := pick_ok h h1 h2
  exact ⟨v, _, e, h3, h4, ⟨mo, rfl, h5⟩, h5⟩
theorem of_str {l : Nat} {M : MS} {s : Str} (h : IsDeal l M) (h1 : 1 ≤ s.length) (h2 : s.length ≤ 1000) : ∃ k M', k ∈ s.cps.toList ∧ f__law_of [.ref l, .str s] M = .ok (.str ⟨#[k]⟩) M' ∧ DealTo l M M' ∧ IsDeal l M' := by
  obtain ⟨v, M', e, h3, h4, h5, h6⟩ := pick_to (many := (s.length : Int)) h (by omega) (by omega)
  obtain ⟨k, m, e2⟩ := atI_in (l := s.cps.toList) h3 (by simpa [Str.length] using h4)
  refine ⟨k, M', m, ?_, h5, h6⟩
  simp (config := {decide := false}) only [fnM, fn, lamRun, rDrop, rLstM, rIf, rArgs, arr, pick1, rU, rSetF, rMk, rPar, rPar3, rStar, starD, rJs, rProp, rMeth, rSup, rFrz, rTupRg, rFun, calmly, List.filterMap, rThen, rIfS, rB, rOp2, rV, rC, rPut, rAsg, rRet, rFun, rCons, rNil, rNx, rOrT, rAndT, rNotT, rAndV, rOrV, rNotV, rChain, rTup, rLst, rItems, rRange1, rSl, rOpt, rMt, rFor, rCall, Res.bind, bindS, toB, lstOf, opI, bName, endF, itemsOf, wipeE, rGuard, gt_iff_lt, List.map_cons, List.map_nil, List.length_cons, List.length_nil, List.getElem?_cons_zero, List.getElem?_cons_succ, List.cons_append, List.nil_append, List.append_nil, and_self, List.replicate, List.set, decide_true, decide_false, if_true, if_false, ite_true, ite_false, Bool.false_eq_true, Bool.or_true, Bool.true_or, Bool.or_false, Bool.not_true, Bool.not_false, Bool.and_true, Bool.true_and, Bool.and_false, Bool.false_and, trim_same', f__law_of, r__law_of, len_str (show s.length ≤ 100000 by omega), and_self, e, opIx, e2, small_of (show s.length ≤ 100000 by omega)]
  exact h5.trim0
theorem of_lst {l : Nat} {M : MS} {ds : List D} (h : IsDeal l M) (h1 : 1 ≤ ds.length) (h2 : ds.length ≤ 1000) : ∃ d M', d ∈ ds ∧ f__law_of [.ref l, .lst ds] M = .ok d M' ∧ DealTo l M M' ∧ IsDeal l M' := by
  obtain ⟨v, M', e, h3, h4, h5, h6⟩ := pick_to (many := (ds.length : Int)) h (by omega) (by omega)
  obtain ⟨d, m, e2⟩ := atI_in (l := ds) h3 h4
  refine ⟨d, M', m, ?_, h5, h6⟩
  simp (config := {decide := false}) only [fnM, fn, lamRun, rDrop, rLstM, rIf, rArgs, arr, pick1, rU, rSetF, rMk, rPar, rPar3, rStar, starD, rJs, rProp, rMeth, rSup, rFrz, rTupRg, rFun, calmly, List.filterMap, rThen, rIfS, rB, rOp2, rV, rC, rPut, rAsg, rRet, rFun, rCons, rNil, rNx, rOrT, rAndT, rNotT, rAndV, rOrV, rNotV, rChain, rTup, rLst, rItems, rRange1, rSl, rOpt, rMt, rFor, rCall, Res.bind, bindS, toB, lstOf, opI, bName, endF, itemsOf, wipeE, rGuard, gt_iff_lt, List.map_cons, List.map_nil, List.length_cons, List.length_nil, List.getElem?_cons_zero, List.getElem?_cons_succ, List.cons_append, List.nil_append, List.append_nil, and_self, List.replicate, List.set, decide_true, decide_false, if_true, if_false, ite_true, ite_false, Bool.false_eq_true, Bool.or_true, Bool.true_or, Bool.or_false, Bool.not_true, Bool.not_false, Bool.and_true, Bool.true_and, Bool.and_false, Bool.false_and, trim_same', f__law_of, r__law_of, fLen, and_self, e, opIx, e2]
  exact h5.trim0
end K01

namespace K01
open PySem Q
/-! ### the deep comparison, of a value with itself -/
theorem eq_int {i j : Int} {M : MS} : opEq false (.int i) (.int j) M = .ok (.bl (i == j)) M := rfl
theorem eq_bl {i j : Bool} {M : MS} : opEq false (.bl i) (.bl j) M = .ok (.bl (i == j)) M := by cases i <;> cases j <;> rfl
theorem ne_bl {i j : Bool} {M : MS} : opEq true (.bl i) (.bl j) M = .ok (.bl (!(i == j))) M := by cases i <;> cases j <;> rfl
def okS (s : Str) : Bool := SeqAt.shaped (.str s)
theorem eq_str {i j : Str} {M : MS} (hi : okS i = true) (hj : okS j = true) : opEq false (.str i) (.str j) M = .ok (.bl (i == j)) M := by
  unfold okS at hi hj
  simp only [opEq, toPy, hi, hj, rGuard, Bool.and_self, if_true]
  rfl
def flatN : Nat → D → Bool
  | 0, _ => false
  | n + 1, d => match d with
    | .non => true
    | .bl _ => true
    | .int _ => true
    | .str s => okS s
    | .tup l => l.all (flatN n) && decide (l.length ≤ 1000)
    | .lst l => l.all (flatN n) && decide (l.length ≤ 1000)
    | _ => false
theorem kc1 : L2.kitB "NoneType" "bool" = some false := by decide +kernel
theorem kc2 : L2.kitB "int" "bool" = some false := by decide +kernel
theorem kc3 : L2.kitB "str" "bool" = some false := by decide +kernel
theorem kc4 : L2.kitB "tuple" "bool" = some false := by decide +kernel
theorem kc5 : L2.kitB "list" "bool" = some false := by decide +kernel
theorem kd1 : L2.kitB "int" "int" = some true := by decide +kernel
theorem kd2 : L2.kitB "str" "int" = some false := by decide +kernel
theorem kd3 : L2.kitB "tuple" "int" = some false := by decide +kernel
theorem kd4 : L2.kitB "list" "int" = some false := by decide +kernel
theorem ke1 : L2.kitB "list" "list" = some true := by decide +kernel
theorem ke2 : L2.kitB "tuple" "list" = some false := by decide +kernel
theorem ke3 : L2.kitB "list" "tuple" = some false := by decide +kernel
theorem ke4 : L2.kitB "tuple" "tuple" = some true := by decide +kernel
theorem isi_two {tb : IsTab} {d : D} {n m k : String} {a b : Bool} {M : MS} (h : tyN d M = some (.inl n)) (ha : L2.kitB n m = some a) (hb : L2.kitB n k = some b) : fIsi tb [d, .tup [.ty m, .ty k]] M = .ok (.bl (a || b)) M := by
  show isiN tb d [.ty m, .ty k] M = _
  unfold isiN
  rw [h]
  show (match isAny tb (.inl n) [.inl m, .inl k] with
    | some b => Res.ok (D.bl b) M
    | none => .stuck) = _
  have e : isAny tb (.inl n) [.inl m, .inl k] = some (a || b) := by
    show (match L2.kitB n m with
      | some true => some true
      | some false => (match L2.kitB n k with
        | some true => some true
        | some false => some false
        | none => none)
      | none => none) = _
    rw [ha, hb]
    cases a <;> cases b <;> rfl
  rw [e]
theorem zip_loop {g : Fn} {ρ : Ev} {M : MS} (hρ : ρ.length = 4) : ∀ l : List D, (∀ d ∈ l, g [d, d] M = .ok (.bl true) M) → loopC ρ (bTup [2, 3]) rTrue (rCall 2 g [] (rCons (rV 2) (rCons (rV 3) rNil))) (paired l l) M = .ok (l.map fun _ => .bl true) M
  | [], _ => rfl
  | d :: l, h => by
    have e1 : (((ρ.set 2 (some d)).set 3 (some d)) : Ev)[2]? = some (some d) := by
      rw [List.getElem?_set_ne (by decide)]; exact List.getElem?_set_self (by omega)
    have e2 : (((ρ.set 2 (some d)).set 3 (some d)) : Ev)[3]? = some (some d) := List.getElem?_set_self (by simp; omega)
    have ih := zip_loop (g := g) hρ l fun x m => h x (.tail _ m)
    have hd := h d (.head _)
    show loopC ρ (bTup [2, 3]) rTrue _ (.tup [d, d] :: paired l l) M = _
    simp only [loopC, bTup, bNames, rTrue, calmly, Res.bind, if_true, rCall, rCons, rV, rNil, e1, e2, List.append_nil, List.length_cons, List.length_nil, rGuard, hd, ih, List.map_cons, decide_true, if_true]
theorem all_true {l : List D} {M : MS} : fAll false [.lst (l.map fun _ => D.bl true)] M = .ok (.bl true) M := by
  have : boolsOf (l.map fun _ => D.bl true) = some (l.map fun _ => true) := bools_map (fun _ => true) l
  simp only [fAll, lstOf, Option.bind_some, this]
  have : (l.map fun _ => true).all id = true := by simp
  simp [this]
theorem same_refl : ∀ (n : Nat) (d : D) (M : MS), flatN n d = true → f__law_same n [d, d] M = .ok (.bl true) M := by
  intro n
  induction n with
  | zero => intro d M h; cases h
  | succ n ih =>
    intro d M h
    have sm : ∀ k : Nat, k ≤ 1000 → small k = true := fun k hk => small_of (by omega)
    have z2 : small (0 + 1 + 1) = true := rfl
    cases d with
    | non => simp (config := {decide := false}) only [fnM, fn, lamRun, rDrop, rLstM, rIf, rArgs, arr, pick1, rU, rSetF, rMk, rPar, rPar3, rStar, starD, rJs, rProp, rMeth, rSup, rFrz, rTupRg, rFun, calmly, List.filterMap, rThen, rIfS, rB, rOp2, rV, rC, rPut, rAsg, rRet, rFun, rCons, rNil, rNx, rOrT, rAndT, rNotT, rAndV, rOrV, rNotV, rChain, rTup, rLst, rItems, rRange1, rSl, rOpt, rMt, rFor, rCall, Res.bind, bindS, toB, lstOf, opI, bName, endF, itemsOf, wipeE, rGuard, gt_iff_lt, List.map_cons, List.map_nil, List.length_cons, List.length_nil, List.getElem?_cons_zero, List.getElem?_cons_succ, List.cons_append, List.nil_append, List.append_nil, and_self, List.replicate, List.set, decide_true, decide_false, if_true, if_false, ite_true, ite_false, Bool.false_eq_true, Bool.or_true, Bool.true_or, Bool.or_false, Bool.not_true, Bool.not_false, Bool.and_true, Bool.true_and, Bool.and_false, Bool.false_and, trim_same', f__law_same, r__law_same, opIsN, isNon]
    | bl b =>
      have i1 : ∀ b : Bool, fIsi tb [.bl b, .ty "bool"] M = .ok (.bl true) M := fun b => isi_str rfl kb7
      simp (config := {decide := false}) only [fnM, fn, lamRun, rDrop, rLstM, rIf, rArgs, arr, pick1, rU, rSetF, rMk, rPar, rPar3, rStar, starD, rJs, rProp, rMeth, rSup, rFrz, rTupRg, rFun, calmly, List.filterMap, rThen, rIfS, rB, rOp2, rV, rC, rPut, rAsg, rRet, rFun, rCons, rNil, rNx, rOrT, rAndT, rNotT, rAndV, rOrV, rNotV, rChain, rTup, rLst, rItems, rRange1, rSl, rOpt, rMt, rFor, rCall, Res.bind, bindS, toB, lstOf, opI, bName, endF, itemsOf, wipeE, rGuard, gt_iff_lt, List.map_cons, List.map_nil, List.length_cons, List.length_nil, List.getElem?_cons_zero, List.getElem?_cons_succ, List.cons_append, List.nil_append, List.append_nil, and_self, List.replicate, List.set, decide_true, decide_false, if_true, if_false, ite_true, ite_false, Bool.false_eq_true, Bool.or_true, Bool.true_or, Bool.or_false, Bool.not_true, Bool.not_false, Bool.and_true, Bool.true_and, Bool.and_false, Bool.false_and, trim_same', f__law_same, r__law_same, i1, opIsN, isNon, eq_bl, beq_self_eq_true]
    | int i =>
      have i1 : ∀ b : Int, fIsi tb [.int b, .ty "bool"] M = .ok (.bl false) M := fun b => isi_str rfl kc2
      have i2 : ∀ b : Int, fIsi tb [.int b, .ty "int"] M = .ok (.bl true) M := fun b => isi_str rfl kd1
      have i3 : ∀ b : Int, fIsi tb [.int b, .tup [.ty "int", .ty "str"]] M = .ok (.bl true) M := fun b => isi_two rfl kd1 kb2
      simp (config := {decide := false}) only [fnM, fn, lamRun, rDrop, rLstM, rIf, rArgs, arr, pick1, rU, rSetF, rMk, rPar, rPar3, rStar, starD, rJs, rProp, rMeth, rSup, rFrz, rTupRg, rFun, calmly, List.filterMap, rThen, rIfS, rB, rOp2, rV, rC, rPut, rAsg, rRet, rFun, rCons, rNil, rNx, rOrT, rAndT, rNotT, rAndV, rOrV, rNotV, rChain, rTup, rLst, rItems, rRange1, rSl, rOpt, rMt, rFor, rCall, Res.bind, bindS, toB, lstOf, opI, bName, endF, itemsOf, wipeE, rGuard, gt_iff_lt, List.map_cons, List.map_nil, List.length_cons, List.length_nil, List.getElem?_cons_zero, List.getElem?_cons_succ, List.cons_append, List.nil_append, List.append_nil, and_self, List.replicate, List.set, decide_true, decide_false, if_true, if_false, ite_true, ite_false, Bool.false_eq_true, Bool.or_true, Bool.true_or, Bool.or_false, Bool.not_true, Bool.not_false, Bool.and_true, Bool.true_and, Bool.and_false, Bool.false_and, trim_same', f__law_same, r__law_same, i1, i2, i3, z2, opIsN, isNon, eq_bl, eq_int, beq_self_eq_true]
    | str i =>
      have i1 : ∀ b : Str, fIsi tb [.str b, .ty "bool"] M = .ok (.bl false) M := fun b => isi_str rfl kc3
      have i2 : ∀ b : Str, fIsi tb [.str b, .ty "int"] M = .ok (.bl false) M := fun b => isi_str rfl kd2
      have i3 : ∀ b : Str, fIsi tb [.str b, .tup [.ty "int", .ty "str"]] M = .ok (.bl true) M := fun b => isi_two rfl kd2 kb1
      simp (config := {decide := false}) only [fnM, fn, lamRun, rDrop, rLstM, rIf, rArgs, arr, pick1, rU, rSetF, rMk, rPar, rPar3, rStar, starD, rJs, rProp, rMeth, rSup, rFrz, rTupRg, rFun, calmly, List.filterMap, rThen, rIfS, rB, rOp2, rV, rC, rPut, rAsg, rRet, rFun, rCons, rNil, rNx, rOrT, rAndT, rNotT, rAndV, rOrV, rNotV, rChain, rTup, rLst, rItems, rRange1, rSl, rOpt, rMt, rFor, rCall, Res.bind, bindS, toB, lstOf, opI, bName, endF, itemsOf, wipeE, rGuard, gt_iff_lt, List.map_cons, List.map_nil, List.length_cons, List.length_nil, List.getElem?_cons_zero, List.getElem?_cons_succ, List.cons_append, List.nil_append, List.append_nil, and_self, List.replicate, List.set, decide_true, decide_false, if_true, if_false, ite_true, ite_false, Bool.false_eq_true, Bool.or_true, Bool.true_or, Bool.or_false, Bool.not_true, Bool.not_false, Bool.and_true, Bool.true_and, Bool.and_false, Bool.false_and, trim_same', f__law_same, r__law_same, i1, i2, i3, z2, opIsN, isNon, eq_bl, eq_str h h, beq_self_eq_true]
    | tup l =>
      simp only [flatN, Bool.and_eq_true, List.all_eq_true, decide_eq_true_eq] at h
      have i1 : ∀ l : List D, fIsi tb [.tup l, .ty "bool"] M = .ok (.bl false) M := fun b => isi_str rfl kc4
      have i3 : ∀ l : List D, fIsi tb [.tup l, .tup [.ty "int", .ty "str"]] M = .ok (.bl false) M := fun b => isi_two rfl kd3 kb5
      have i4 : ∀ l : List D, fIsi tb [.tup l, .ty "list"] M = .ok (.bl false) M := fun b => isi_str rfl ke2
      have i5 : ∀ l : List D, fIsi tb [.tup l, .ty "tuple"] M = .ok (.bl true) M := fun b => isi_str rfl ke4
      have zl := zip_loop (g := f__law_same n) (ρ := [some (.tup l), some (.tup l), none, none]) (M := M) rfl l fun d m => ih d M (h.1 d m)
      have lp : (paired l l).length = l.length := by unfold paired; simp
      simp (config := {decide := false}) only [fnM, fn, lamRun, rDrop, rLstM, rIf, rArgs, arr, pick1, rU, rSetF, rMk, rPar, rPar3, rStar, starD, rJs, rProp, rMeth, rSup, rFrz, rTupRg, rFun, calmly, List.filterMap, rThen, rIfS, rB, rOp2, rV, rC, rPut, rAsg, rRet, rFun, rCons, rNil, rNx, rOrT, rAndT, rNotT, rAndV, rOrV, rNotV, rChain, rTup, rLst, rItems, rRange1, rSl, rOpt, rMt, rFor, rCall, Res.bind, bindS, toB, lstOf, opI, bName, endF, itemsOf, wipeE, rGuard, gt_iff_lt, List.map_cons, List.map_nil, List.length_cons, List.length_nil, List.getElem?_cons_zero, List.getElem?_cons_succ, List.cons_append, List.nil_append, List.append_nil, and_self, List.replicate, List.set, decide_true, decide_false, if_true, if_false, ite_true, ite_false, Bool.false_eq_true, Bool.or_true, Bool.true_or, Bool.or_false, Bool.not_true, Bool.not_false, Bool.and_true, Bool.true_and, Bool.and_false, Bool.false_and, trim_same', f__law_same, r__law_same, i1, i3, i4, i5, z2, opIsN, isNon, ne_bl, len_tup, eq_int, beq_self_eq_true, rLc, rComp, rZipA, zl, lp, sm _ h.2, all_true]
    | lst l =>
      simp only [flatN, Bool.and_eq_true, List.all_eq_true, decide_eq_true_eq] at h
      have i1 : ∀ l : List D, fIsi tb [.lst l, .ty "bool"] M = .ok (.bl false) M := fun b => isi_str rfl kc5
      have i3 : ∀ l : List D, fIsi tb [.lst l, .tup [.ty "int", .ty "str"]] M = .ok (.bl false) M := fun b => isi_two rfl kd4 kb6
      have i4 : ∀ l : List D, fIsi tb [.lst l, .ty "list"] M = .ok (.bl true) M := fun b => isi_str rfl ke1
      have i5 : ∀ l : List D, fIsi tb [.lst l, .ty "tuple"] M = .ok (.bl false) M := fun b => isi_str rfl ke3
      have zl := zip_loop (g := f__law_same n) (ρ := [some (.lst l), some (.lst l), none, none]) (M := M) rfl l fun d m => ih d M (h.1 d m)
      have lp : (paired l l).length = l.length := by unfold paired; simp
      simp (config := {decide := false}) only [fnM, fn, lamRun, rDrop, rLstM, rIf, rArgs, arr, pick1, rU, rSetF, rMk, rPar, rPar3, rStar, starD, rJs, rProp, rMeth, rSup, rFrz, rTupRg, rFun, calmly, List.filterMap, rThen, rIfS, rB, rOp2, rV, rC, rPut, rAsg, rRet, rFun, rCons, rNil, rNx, rOrT, rAndT, rNotT, rAndV, rOrV, rNotV, rChain, rTup, rLst, rItems, rRange1, rSl, rOpt, rMt, rFor, rCall, Res.bind, bindS, toB, lstOf, opI, bName, endF, itemsOf, wipeE, rGuard, gt_iff_lt, List.map_cons, List.map_nil, List.length_cons, List.length_nil, List.getElem?_cons_zero, List.getElem?_cons_succ, List.cons_append, List.nil_append, List.append_nil, and_self, List.replicate, List.set, decide_true, decide_false, if_true, if_false, ite_true, ite_false, Bool.false_eq_true, Bool.or_true, Bool.true_or, Bool.or_false, Bool.not_true, Bool.not_false, Bool.and_true, Bool.true_and, Bool.and_false, Bool.false_and, trim_same', f__law_same, r__law_same, i1, i3, i4, i5, z2, opIsN, isNon, ne_bl, len_lst, eq_int, beq_self_eq_true, rLc, rComp, rZipA, zl, lp, sm _ h.2, all_true]
    | _ => cases h
end K01

namespace K01
open PySem Q
/-! ### the law's steps -/
noncomputable def rs0 : Sn := (rAsg (rCall 1 f__law_deal [] (rCons (rV 0) rNil)) (bName 1))
noncomputable def rs1 : Sn := (rAsg (rCall 2 f__law_of [] (rCons (rV 1) (rCons (rLst (rCons (rCall 2 f__law_pick [] (rCons (rV 1) (rCons (rOp2 opPow (rC (.int 10)) (rC (.int 9))) rNil))) (rCons (rOp2 opSub (rOp2 opSub (rC (.int 0)) (rC (.int 1))) (rCall 2 f__law_pick [] (rCons (rV 1) (rCons (rC (.int 9)) rNil)))) (rCons (rC (.str "late")) (rCons (rC .non) (rCons (rTup (rCons (rC (.int 1)) (rCons (rC (.str "a")) rNil))) rNil)))))) rNil))) (bName 2))
noncomputable def rs2 : Sn := (rAsg (rCall 1 f__law_made_errors [] (rCons (rV 2) rNil)) (bTup [6, 7, 8, 9]))
noncomputable def rs3 : Sn := (rAsg (rLcM (rItems (rV 6)) [15, 16] (bTup [15, 16]) rTrue (rCall 2 (f__law_same 4) [] (rCons (rLst (rCons (rU (opXf ["InvalidName", "InvalidNumber", "InvalidBlocks", "InvalidText", "InvalidStep", "InvalidMerge", "InvalidAction", "InvalidImage", "InvalidEvent", "InvalidWeight", "InvalidWish", "InvalidChange", "InvalidOffer", "InvalidLimit", "InvalidCommand", "DuplicateName", "TooMany", "Stuck", "NotNow", "NotComparable", "Full", "UnknownName", "NothingLeft"] "code") (rV 15)) (rCons (rU (opXf ["InvalidName", "InvalidNumber", "InvalidBlocks", "InvalidEvent", "InvalidWeight", "InvalidLimit"] "given") (rV 15)) rNil))) (rCons (rLst (rCons (rV 16) (rCons (rV 2) rNil))) rNil)))) (bName 3))
noncomputable def rs4 : Sn := (rAsg (rOp2 opAddM (rV 3) (rLc (rItems (rV 7)) [15, 16] (bTup [15, 16]) rTrue (rCall 2 (f__law_same 4) [] (rCons (rLst (rCons (rU (opXf ["InvalidName", "InvalidNumber", "InvalidBlocks", "InvalidText", "InvalidStep", "InvalidMerge", "InvalidAction", "InvalidImage", "InvalidEvent", "InvalidWeight", "InvalidWish", "InvalidChange", "InvalidOffer", "InvalidLimit", "InvalidCommand", "DuplicateName", "TooMany", "Stuck", "NotNow", "NotComparable", "Full", "UnknownName", "NothingLeft"] "code") (rV 15)) (rCons (rU (opXf ["InvalidText", "InvalidStep", "InvalidAction", "InvalidImage", "InvalidChange", "InvalidOffer", "InvalidCommand", "NotNow"] "at") (rV 15)) rNil))) (rCons (rLst (rCons (rV 16) (rCons (rV 2) rNil))) rNil))))) (bName 3))
noncomputable def rs5 : Sn := (rAsg (rOp2 opAddM (rV 3) (rLc (rItems (rV 8)) [15, 16] (bTup [15, 16]) rTrue (rCall 2 (f__law_same 4) [] (rCons (rLst (rCons (rU (opXf ["InvalidName", "InvalidNumber", "InvalidBlocks", "InvalidText", "InvalidStep", "InvalidMerge", "InvalidAction", "InvalidImage", "InvalidEvent", "InvalidWeight", "InvalidWish", "InvalidChange", "InvalidOffer", "InvalidLimit", "InvalidCommand", "DuplicateName", "TooMany", "Stuck", "NotNow", "NotComparable", "Full", "UnknownName", "NothingLeft"] "code") (rV 15)) (rCons (rU (opXf ["InvalidMerge", "DuplicateName", "UnknownName"] "name") (rV 15)) rNil))) (rCons (rLst (rCons (rV 16) (rCons (rV 2) rNil))) rNil))))) (bName 3))
noncomputable def rs6 : Sn := (rAsg (rOp2 opAddM (rV 3) (rLc (rItems (rV 9)) [15, 16] (bTup [15, 16]) rTrue (rCall 2 (f__law_same 4) [] (rCons (rU (opXf ["InvalidName", "InvalidNumber", "InvalidBlocks", "InvalidText", "InvalidStep", "InvalidMerge", "InvalidAction", "InvalidImage", "InvalidEvent", "InvalidWeight", "InvalidWish", "InvalidChange", "InvalidOffer", "InvalidLimit", "InvalidCommand", "DuplicateName", "TooMany", "Stuck", "NotNow", "NotComparable", "Full", "UnknownName", "NothingLeft"] "code") (rV 15)) (rCons (rV 16) rNil))))) (bName 3))
noncomputable def rs7 : Sn := (rPar3 10 11 12 (rCons (rEx "TooMany" 2 (mkD2 "TooMany" "subject" "most") (rCons (rC (.str "late")) (rCons (rV 2) rNil))) (rCons (rEx "Stuck" 1 (mkD1 "Stuck" "ring") (rCons (rLst (rCons (rV 2) rNil)) rNil)) (rCons (rEx "Full" 1 (mkD1 "Full" "most") (rCons (rV 2) rNil)) rNil))))
noncomputable def rs8 : Sn := (rPar 13 14 (rCons (rEx "UnknownName" 1 (mkD1 "UnknownName" "name") (rCons (rV 2) rNil)) (rCons (rEx "NothingLeft" 0 (mkD0 "NothingLeft") rNil) rNil)))
noncomputable def rs9 : Sn := (rDrop (rMt "list" fAppend (rV 3) (rCons (rCall 2 (f__law_same 4) [] (rCons (rLst (rCons (rU (opXf ["InvalidName", "InvalidNumber", "InvalidBlocks", "InvalidText", "InvalidStep", "InvalidMerge", "InvalidAction", "InvalidImage", "InvalidEvent", "InvalidWeight", "InvalidWish", "InvalidChange", "InvalidOffer", "InvalidLimit", "InvalidCommand", "DuplicateName", "TooMany", "Stuck", "NotNow", "NotComparable", "Full", "UnknownName", "NothingLeft"] "code") (rV 10)) (rCons (rU (opXf ["TooMany"] "subject") (rV 10)) (rCons (rU (opXf ["TooMany", "Full"] "most") (rV 10)) (rCons (rU (opXf ["InvalidName", "InvalidNumber", "InvalidBlocks", "InvalidText", "InvalidStep", "InvalidMerge", "InvalidAction", "InvalidImage", "InvalidEvent", "InvalidWeight", "InvalidWish", "InvalidChange", "InvalidOffer", "InvalidLimit", "InvalidCommand", "DuplicateName", "TooMany", "Stuck", "NotNow", "NotComparable", "Full", "UnknownName", "NothingLeft"] "code") (rV 11)) (rCons (rU (opXf ["Stuck"] "ring") (rV 11)) (rCons (rU (opXf ["InvalidName", "InvalidNumber", "InvalidBlocks", "InvalidText", "InvalidStep", "InvalidMerge", "InvalidAction", "InvalidImage", "InvalidEvent", "InvalidWeight", "InvalidWish", "InvalidChange", "InvalidOffer", "InvalidLimit", "InvalidCommand", "DuplicateName", "TooMany", "Stuck", "NotNow", "NotComparable", "Full", "UnknownName", "NothingLeft"] "code") (rV 12)) (rCons (rU (opXf ["TooMany", "Full"] "most") (rV 12)) rNil)))))))) (rCons (rLst (rCons (rC (.str "TooMany")) (rCons (rC (.str "late")) (rCons (rV 2) (rCons (rC (.str "Stuck")) (rCons (rLst (rCons (rV 2) rNil)) (rCons (rC (.str "Full")) (rCons (rV 2) rNil)))))))) rNil))) rNil)))
noncomputable def rs10 : Sn := (rDrop (rMt "list" fAppend (rV 3) (rCons (rCall 2 (f__law_same 4) [] (rCons (rLst (rCons (rU (opXf ["InvalidName", "InvalidNumber", "InvalidBlocks", "InvalidText", "InvalidStep", "InvalidMerge", "InvalidAction", "InvalidImage", "InvalidEvent", "InvalidWeight", "InvalidWish", "InvalidChange", "InvalidOffer", "InvalidLimit", "InvalidCommand", "DuplicateName", "TooMany", "Stuck", "NotNow", "NotComparable", "Full", "UnknownName", "NothingLeft"] "code") (rV 13)) (rCons (rU (opXf ["InvalidMerge", "DuplicateName", "UnknownName"] "name") (rV 13)) (rCons (rU (opXf ["InvalidName", "InvalidNumber", "InvalidBlocks", "InvalidText", "InvalidStep", "InvalidMerge", "InvalidAction", "InvalidImage", "InvalidEvent", "InvalidWeight", "InvalidWish", "InvalidChange", "InvalidOffer", "InvalidLimit", "InvalidCommand", "DuplicateName", "TooMany", "Stuck", "NotNow", "NotComparable", "Full", "UnknownName", "NothingLeft"] "code") (rV 14)) rNil)))) (rCons (rLst (rCons (rC (.str "UnknownName")) (rCons (rV 2) (rCons (rC (.str "NothingLeft")) rNil)))) rNil))) rNil)))
noncomputable def rs11 : Sn := (rIfS (rNotT (rB (rFun (fAll false) (rCons (rV 3) rNil)))) (rRet (rC (.bl false))) rNx)
noncomputable def rs12 : Sn := (rAsg (rOp2 opAdd (rLc (rItems (rOp2 opAdd (rOp2 opAdd (rOp2 opAdd (rV 6) (rV 7)) (rV 8)) (rV 9))) [17] (bName 17) rTrue (rOp2 opIx (rV 17) (rC (.int 0)))) (rLst (rCons (rV 10) (rCons (rV 11) (rCons (rV 12) rNil))))) (bName 4))
noncomputable def rs13 : Sn := (rIfS (rNotT (rB (rFun (fAll false) (rCons (rLc (rItems (rV 4)) [15] (bName 15) rTrue (rOp2 (opEq false) (rCall 1 f__law_bases [] (rCons (rV 15) rNil)) (rLst (rCons (rC (.bl true)) (rCons (rC (.bl false)) (rCons (rC (.bl false)) (rCons (rC (.bl true)) (rCons (rC (.bl false)) (rCons (rC (.bl false)) rNil))))))))) rNil)))) (rRet (rC (.bl false))) rNx)
noncomputable def rs14 : Sn := (rIfS (rB (rOp2 (opEq true) (rCall 1 f__law_bases [] (rCons (rV 13) rNil)) (rLst (rCons (rC (.bl false)) (rCons (rC (.bl true)) (rCons (rC (.bl false)) (rCons (rC (.bl false)) (rCons (rC (.bl true)) (rCons (rC (.bl false)) rNil))))))))) (rRet (rC (.bl false))) rNx)
noncomputable def rs15 : Sn := (rIfS (rB (rOp2 (opEq true) (rCall 1 f__law_bases [] (rCons (rV 14) rNil)) (rLst (rCons (rC (.bl false)) (rCons (rC (.bl false)) (rCons (rC (.bl true)) (rCons (rC (.bl false)) (rCons (rC (.bl true)) (rCons (rC (.bl true)) rNil))))))))) (rRet (rC (.bl false))) rNx)
noncomputable def rs16 : Sn := (rAsg (rExK "TooMany" 2 2 [.k 1, .k 0] (mkD2 "TooMany" "subject" "most") (rCons (rC (.int 3)) (rCons (rC (.str "x")) rNil))) (bName 5))
noncomputable def rs17 : Sn := (rRet (rAndV (rCall 2 (f__law_same 4) [] (rCons (rLst (rCons (rU (opXf ["TooMany"] "subject") (rV 5)) (rCons (rU (opXf ["TooMany", "Full"] "most") (rV 5)) (rCons (rU (opXf ["InvalidName", "InvalidNumber", "InvalidBlocks", "InvalidEvent", "InvalidWeight", "InvalidLimit"] "given") (rExK "InvalidName" 1 1 [.k 0] (mkD1 "InvalidName" "given") (rCons (rV 2) rNil))) rNil)))) (rCons (rLst (rCons (rC (.str "x")) (rCons (rC (.int 3)) (rCons (rV 2) rNil)))) rNil))) (rAndV (rNotV (rFun (fIsx xtb) (rCons (rOp2 opIx (rOp2 opIx (rV 6) (rC (.int 0))) (rC (.int 0))) (rCons (rC (.cls "InvalidNumber")) rNil)))) (rAndV (rNotV (rFun (fIsx xtb) (rCons (rOp2 opIx (rOp2 opIx (rV 8) (rC (.int 1))) (rC (.int 0))) (rCons (rC (.cls "InvalidMerge")) rNil)))) (rAndV (rNotV (rFun (fIsx xtb) (rCons (rOp2 opIx (rOp2 opIx (rV 7) (rC (.int 3))) (rC (.int 0))) (rCons (rC (.cls "InvalidText")) rNil)))) (rNotV (rFun (fIsx xtb) (rCons (rV 12) (rCons (rC (.cls "TooMany")) rNil)))))))))
noncomputable def rRest : Sn := (rThen rs2 (rThen rs3 (rThen rs4 (rThen rs5 (rThen rs6 (rThen rs7 (rThen rs8 (rThen rs9 (rThen rs10 (rThen rs11 (rThen rs12 (rThen rs13 (rThen rs14 (rThen rs15 (rThen rs16 rs17)))))))))))))))
theorem law_eq : r_law = rThen rs0 (rThen rs1 rRest) := rfl
theorem flatN_up : ∀ {n : Nat} {d : D}, flatN n d = true → flatN (n + 1) d = true
  | 0, _, h => nomatch h
  | n + 1, .non, _ => rfl
  | n + 1, .bl _, _ => rfl
  | n + 1, .int _, _ => rfl
  | n + 1, .str _, h => h
  | n + 1, .tup l, h => by
    simp only [flatN, Bool.and_eq_true, List.all_eq_true] at h ⊢
    exact ⟨fun d m => flatN_up (h.1 d m), h.2⟩
  | n + 1, .lst l, h => by
    simp only [flatN, Bool.and_eq_true, List.all_eq_true] at h ⊢
    exact ⟨fun d m => flatN_up (h.1 d m), h.2⟩
theorem flat_tup {n : Nat} {l : List D} (h : ∀ d ∈ l, flatN n d = true) (hl : l.length ≤ 1000) : flatN (n + 1) (.tup l) = true := by
  simp only [flatN, Bool.and_eq_true, List.all_eq_true, decide_eq_true_eq]
  exact ⟨h, hl⟩
theorem flat_lst {n : Nat} {l : List D} (h : ∀ d ∈ l, flatN n d = true) (hl : l.length ≤ 1000) : flatN (n + 1) (.lst l) = true := by
  simp only [flatN, Bool.and_eq_true, List.all_eq_true, decide_eq_true_eq]
  exact ⟨h, hl⟩
theorem flat_2 {x y : D} {n : Nat} (h : flatN n x = true) (k : flatN n y = true) : flatN (n + 1) (.lst [x, y]) = true := flat_lst (fun d m => by
  simp only [List.mem_cons, List.not_mem_nil, or_false] at m
  rcases m with rfl | rfl
  · exact h
  · exact k) (by simp)
theorem loopC_one {ρ ρ' : Ev} {bd : D → Ev → Option Ev} {e : Rn D} {d r : D} {ds rs : List D} {M : MS} (h1 : bd d ρ = some ρ') (h2 : e ρ' M = .ok r M) (h3 : loopC ρ bd rTrue e ds M = .ok rs M) : loopC ρ bd rTrue e (d :: ds) M = .ok (r :: rs) M := by
  unfold loopC
  simp only [h1, rTrue, calmly, Res.bind, if_true, h2, h3]
theorem lc_ok {it : Rn (List D)} {vs : List Nat} {bd : D → Ev → Option Ev} {e : Rn D} {ρ : Ev} {M : MS} {ds ys : List D} (h : it ρ M = .ok ds M) (hs : small ds.length = true) (k : loopC (wipeE ρ vs) bd rTrue e ds M = .ok ys M) : rLc it vs bd rTrue e ρ M = .ok (.lst ys) M := by
  unfold rLc rComp; rw [h]; simp only [Res.bind, hs, rGuard, if_true]; rw [k]
theorem lcM_ok {it : Rn (List D)} {vs : List Nat} {bd : D → Ev → Option Ev} {e : Rn D} {ρ : Ev} {M : MS} {ds ys : List D} (h : it ρ M = .ok ds M) (hs : small ds.length = true) (k : loopC (wipeE ρ vs) bd rTrue e ds M = .ok ys M) : rLcM it vs bd rTrue e ρ M = .ok (.ref M.length) (M ++ [.lst ys]) := by
  unfold rLcM rComp; rw [h]; simp only [Res.bind, hs, rGuard, if_true]; rw [k]
theorem get_lastM {M : MS} {x : MO} : (M ++ [x])[M.length]? = some x := by simp
theorem set_lastM {M : MS} {x y : MO} : (M ++ [x]).set M.length y = M ++ [y] := by
  rw [List.set_append_right _ _ (Nat.le_refl _)]; simp
theorem addM_ok {xs ys : List D} {M : MS} (h : small (xs.length + ys.length) = true) : opAddM (.ref M.length) (.lst ys) (M ++ [MO.lst xs]) = .ok (.ref (M ++ [MO.lst xs]).length) (M ++ [MO.lst xs] ++ [MO.lst (xs ++ ys)]) := by
  have e1 : ownL (.ref M.length) (M ++ [MO.lst xs]) = some xs := by simp only [ownL, lstOf, get_lastM]
  have e2 : ownL (.lst ys) (M ++ [MO.lst xs]) = some ys := rfl
  simp only [opAddM, e1, e2, h, rGuard, if_true]
theorem all_list {l : List D} {M : MS} (h : boolsOf l = some (List.replicate l.length true)) : fAll false [.ref M.length] (M ++ [MO.lst l]) = .ok (.bl true) (M ++ [MO.lst l]) := by
  have e : lstOf (.ref M.length) (M ++ [MO.lst l]) = some l := by simp only [lstOf, get_lastM]
  simp only [fAll, e, Option.bind_some, h]
  simp
theorem app_ok {x : D} {xs : List D} {M : MS} (h : decide (xs.length < 16777216) = true) : fAppend (.ref M.length) [x] (M ++ [MO.lst xs]) = .ok .non (M ++ [MO.lst (xs ++ [x])]) := by
  simp only [fAppend, get_lastM, h, rGuard, if_true, set_lastM]
/-! ### the errors -/
section
variable (a : D)
def G (n : Str) : D := .exn n [("given", a), ("code", .str n)]
def T (n : Str) : D := .exn n [("at", a), ("code", .str n)]
def N (n : Str) : D := .exn n [("name", a), ("code", .str n)]
def B (n : Str) : D := .exn n [("code", .str n)]
def pr (f : Str → D) (n : Str) : D := .tup [f n, .str n]
abbrev gs : List Str := ["InvalidName", "InvalidNumber", "InvalidBlocks", "InvalidEvent", "InvalidWeight", "InvalidLimit"]
abbrev ts : List Str := ["InvalidText", "InvalidStep", "InvalidAction", "InvalidImage", "InvalidChange", "InvalidOffer", "InvalidCommand", "NotNow"]
abbrev nms : List Str := ["InvalidMerge", "DuplicateName"]
abbrev bs : List Str := ["InvalidWish", "NotComparable"]
theorem made_ok {M : MS} : f__law_made_errors [a] M = .ok (.tup [.lst (gs.map (pr (G a))), .lst (ts.map (pr (T a))), .lst (nms.map (pr (N a))), .lst (bs.map (pr B))]) M := by
  have run : r__law_made_errors [some a, none, none, none, none] M = .rt (.tup [.lst (gs.map (pr (G a))), .lst (ts.map (pr (T a))), .lst (nms.map (pr (N a))), .lst (bs.map (pr B))]) M := rfl
  show trim M (endF (r__law_made_errors [some a, none, none, none, none] M)) = _
  rw [run]
  exact trim_same'
def ρ0 (x0 x1 x2 x3 x4 x5 x6 x7 x8 x9 x10 x11 x12 x13 x14 x15 x16 x17 : Option D) : Ev := [x0, x1, x2, x3, x4, x5, x6, x7, x8, x9, x10, x11, x12, x13, x14, x15, x16, x17]
end
theorem code_ok : ∀ n ∈ gs ++ ts ++ nms ++ bs, okS n = true := by decide +kernel
end K01

namespace K01
open PySem Q
noncomputable def eG : Rn D := (rCall 2 (f__law_same 4) [] (rCons (rLst (rCons (rU (opXf ["InvalidName", "InvalidNumber", "InvalidBlocks", "InvalidText", "InvalidStep", "InvalidMerge", "InvalidAction", "InvalidImage", "InvalidEvent", "InvalidWeight", "InvalidWish", "InvalidChange", "InvalidOffer", "InvalidLimit", "InvalidCommand", "DuplicateName", "TooMany", "Stuck", "NotNow", "NotComparable", "Full", "UnknownName", "NothingLeft"] "code") (rV 15)) (rCons (rU (opXf ["InvalidName", "InvalidNumber", "InvalidBlocks", "InvalidEvent", "InvalidWeight", "InvalidLimit"] "given") (rV 15)) rNil))) (rCons (rLst (rCons (rV 16) (rCons (rV 2) rNil))) rNil)))
noncomputable def eT : Rn D := (rCall 2 (f__law_same 4) [] (rCons (rLst (rCons (rU (opXf ["InvalidName", "InvalidNumber", "InvalidBlocks", "InvalidText", "InvalidStep", "InvalidMerge", "InvalidAction", "InvalidImage", "InvalidEvent", "InvalidWeight", "InvalidWish", "InvalidChange", "InvalidOffer", "InvalidLimit", "InvalidCommand", "DuplicateName", "TooMany", "Stuck", "NotNow", "NotComparable", "Full", "UnknownName", "NothingLeft"] "code") (rV 15)) (rCons (rU (opXf ["InvalidText", "InvalidStep", "InvalidAction", "InvalidImage", "InvalidChange", "InvalidOffer", "InvalidCommand", "NotNow"] "at") (rV 15)) rNil))) (rCons (rLst (rCons (rV 16) (rCons (rV 2) rNil))) rNil)))
noncomputable def eN : Rn D := (rCall 2 (f__law_same 4) [] (rCons (rLst (rCons (rU (opXf ["InvalidName", "InvalidNumber", "InvalidBlocks", "InvalidText", "InvalidStep", "InvalidMerge", "InvalidAction", "InvalidImage", "InvalidEvent", "InvalidWeight", "InvalidWish", "InvalidChange", "InvalidOffer", "InvalidLimit", "InvalidCommand", "DuplicateName", "TooMany", "Stuck", "NotNow", "NotComparable", "Full", "UnknownName", "NothingLeft"] "code") (rV 15)) (rCons (rU (opXf ["InvalidMerge", "DuplicateName", "UnknownName"] "name") (rV 15)) rNil))) (rCons (rLst (rCons (rV 16) (rCons (rV 2) rNil))) rNil)))
noncomputable def eB : Rn D := (rCall 2 (f__law_same 4) [] (rCons (rU (opXf ["InvalidName", "InvalidNumber", "InvalidBlocks", "InvalidText", "InvalidStep", "InvalidMerge", "InvalidAction", "InvalidImage", "InvalidEvent", "InvalidWeight", "InvalidWish", "InvalidChange", "InvalidOffer", "InvalidLimit", "InvalidCommand", "DuplicateName", "TooMany", "Stuck", "NotNow", "NotComparable", "Full", "UnknownName", "NothingLeft"] "code") (rV 15)) (rCons (rV 16) rNil)))
noncomputable def eK : Rn D := (rOp2 (opEq false) (rCall 1 f__law_bases [] (rCons (rV 15) rNil)) (rLst (rCons (rC (.bl true)) (rCons (rC (.bl false)) (rCons (rC (.bl false)) (rCons (rC (.bl true)) (rCons (rC (.bl false)) (rCons (rC (.bl false)) rNil))))))))
theorem rs3_eq : rs3 = rAsg (rLcM (rItems (rV 6)) [15, 16] (bTup [15, 16]) rTrue eG) (bName 3) := rfl
theorem rs4_eq : rs4 = rAsg (rOp2 opAddM (rV 3) (rLc (rItems (rV 7)) [15, 16] (bTup [15, 16]) rTrue eT)) (bName 3) := rfl
theorem rs5_eq : rs5 = rAsg (rOp2 opAddM (rV 3) (rLc (rItems (rV 8)) [15, 16] (bTup [15, 16]) rTrue eN)) (bName 3) := rfl
theorem rs6_eq : rs6 = rAsg (rOp2 opAddM (rV 3) (rLc (rItems (rV 9)) [15, 16] (bTup [15, 16]) rTrue eB)) (bName 3) := rfl
abbrev st (a : D) (x0 x3 x4 x5 x10 x11 x12 x13 x14 x15 x16 x17 : Option D) : Ev := [x0, some (.ref 0), some a, x3, x4, x5, some (.lst (gs.map (pr (G a)))), some (.lst (ts.map (pr (T a)))), some (.lst (nms.map (pr (N a)))), some (.lst (bs.map (pr B))), x10, x11, x12, x13, x14, x15, x16, x17]
section
variable {a : D} {M : MS} {x0 x3 x4 x5 x10 x11 x12 x13 x14 x17 : Option D}
theorem gE (h3 : flatN 3 a = true) : ∀ n ∈ gs, eG (st a x0 x3 x4 x5 x10 x11 x12 x13 x14 (some (G a n)) (some (.str n)) x17) M = .ok (.bl true) M := fun n m => by
  have hn := code_ok n (by simp only [List.mem_append]; exact .inl (.inl (.inl m)))
  have sm := same_refl 4 (.lst [.str n, a]) M (flat_2 (n := 3) (x := .str n) hn h3)
  simp only [List.mem_cons, List.not_mem_nil, or_false] at m
  rcases m with rfl | rfl | rfl | rfl | rfl | rfl
  all_goals exact (call_ok (M1 := M) rfl).trans sm
theorem tE (h3 : flatN 3 a = true) : ∀ n ∈ ts, eT (st a x0 x3 x4 x5 x10 x11 x12 x13 x14 (some (T a n)) (some (.str n)) x17) M = .ok (.bl true) M := fun n m => by
  have hn := code_ok n (by simp only [List.mem_append]; exact .inl (.inl (.inr m)))
  have sm := same_refl 4 (.lst [.str n, a]) M (flat_2 (n := 3) (x := .str n) hn h3)
  simp only [List.mem_cons, List.not_mem_nil, or_false] at m
  rcases m with rfl | rfl | rfl | rfl | rfl | rfl | rfl | rfl
  all_goals exact (call_ok (M1 := M) rfl).trans sm
theorem nE (h3 : flatN 3 a = true) : ∀ n ∈ nms, eN (st a x0 x3 x4 x5 x10 x11 x12 x13 x14 (some (N a n)) (some (.str n)) x17) M = .ok (.bl true) M := fun n m => by
  have hn := code_ok n (by simp only [List.mem_append]; exact .inl (.inr m))
  have sm := same_refl 4 (.lst [.str n, a]) M (flat_2 (n := 3) (x := .str n) hn h3)
  simp only [List.mem_cons, List.not_mem_nil, or_false] at m
  rcases m with rfl | rfl
  all_goals exact (call_ok (M1 := M) rfl).trans sm
theorem bE : ∀ n ∈ bs, eB (st a x0 x3 x4 x5 x10 x11 x12 x13 x14 (some (B n)) (some (.str n)) x17) M = .ok (.bl true) M := fun n m => by
  have hn := code_ok n (by simp only [List.mem_append]; exact .inr m)
  have sm := same_refl 4 (.str n) M hn
  simp only [List.mem_cons, List.not_mem_nil, or_false] at m
  rcases m with rfl | rfl
  all_goals exact (call_ok (M1 := M) rfl).trans sm
theorem fam {e : Rn D} {f : Str → D} {ls : List Str} {x15 x16 : Option D} (h : ∀ n ∈ ls, e (st a x0 x3 x4 x5 x10 x11 x12 x13 x14 (some (f n)) (some (.str n)) x17) M = .ok (.bl true) M) : loopC (wipeE (st a x0 x3 x4 x5 x10 x11 x12 x13 x14 x15 x16 x17) [15, 16]) (bTup [15, 16]) rTrue e (ls.map (pr f)) M = .ok ((ls.map (pr f)).map fun _ => .bl true) M :=
  loopC_map (fun _ => .bl true) _ fun d m => by
    obtain ⟨n, hn, rfl⟩ := List.mem_map.mp m
    exact ⟨_, rfl, h n hn⟩
theorem mt_ok {K : String} {f : D → Fn} {oo : Rn D} {aa : Rn (List D)} {ρ : Ev} {M2 : MS} {d : D} {ds : List D} (ho : oo ρ M = .ok d M) (g : tyD K d M = true) (ha : aa ρ M = .ok ds M2) : rMt K f oo aa ρ M = f d ds M2 := by
  unfold rMt; rw [ho]; simp only [Res.bind, g, rGuard, if_true]; rw [ha]
theorem and_ok {p q : Rn D} {ρ : Ev} (h : p ρ M = .ok (.bl true) M) : rAndV p q ρ M = q ρ M := by
  unfold rAndV; rw [h]; rfl
theorem bases_of {d : D} {L : List D} (h : r__law_bases [some d] M = .rt (.lst L) M) : f__law_bases [d] M = .ok (.lst L) M := by
  show trim M (endF (r__law_bases [some d] M)) = _
  rw [h]; exact trim_same'
abbrev many (a : D) : D := .exn "TooMany" [("most", a), ("subject", .str "late"), ("code", .str "TooMany")]
abbrev stuck (a : D) : D := .exn "Stuck" [("ring", .lst [a]), ("code", .str "Stuck")]
abbrev full (a : D) : D := .exn "Full" [("most", a), ("code", .str "Full")]
abbrev unk (a : D) : D := .exn "UnknownName" [("name", a), ("code", .str "UnknownName")]
abbrev left : D := .exn "NothingLeft" [("code", .str "NothingLeft")]
abbrev keyed : D := .exn "TooMany" [("most", .int 3), ("subject", .str "x"), ("code", .str "TooMany")]
abbrev somes (a : D) : List D := gs.map (G a) ++ ts.map (T a) ++ nms.map (N a) ++ bs.map B ++ [many a, stuck a, full a]
abbrev b1 : List D := [.bl true, .bl false, .bl false, .bl true, .bl false, .bl false]
theorem some_bases : ∀ d ∈ somes a, f__law_bases [d] M = .ok (.lst b1) M := fun d m => by
  simp only [somes, gs, ts, nms, bs, List.map_cons, List.map_nil, List.mem_append, List.mem_cons, List.not_mem_nil, or_false] at m
  rcases m with (((((rfl | rfl | rfl | rfl | rfl | rfl) | rfl | rfl | rfl | rfl | rfl | rfl | rfl | rfl) | rfl | rfl) | rfl | rfl) | rfl | rfl | rfl)
  all_goals exact bases_of rfl
theorem ty_ref {xs : List D} : tyD "list" (.ref M.length) (M ++ [MO.lst xs]) = true := by simp [tyD, lstOf, get_lastM]
theorem ok_str : okS "TooMany" = true ∧ okS "late" = true ∧ okS "Stuck" = true ∧ okS "Full" = true ∧ okS "UnknownName" = true ∧ okS "NothingLeft" = true ∧ okS "x" = true := by decide +kernel
theorem rest_ok (fl : flatN 2 a = true) (x6 x7 x8 x9 x15 x16 : Option D) : ∃ M', rRest [x0, some (.ref 0), some a, x3, x4, x5, x6, x7, x8, x9, x10, x11, x12, x13, x14, x15, x16, x17] M = .rt (.bl true) M' := by
  have fl3 := flatN_up fl
  have fl2' := flat_lst (n := 2) (l := [a]) (fun d m => by cases List.mem_singleton.mp m; exact fl) (by simp)
  let l1 : List D := (gs.map (pr (G a))).map fun _ => .bl true
  let l2 : List D := l1 ++ (ts.map (pr (T a))).map fun _ => .bl true
  let l3 : List D := l2 ++ (nms.map (pr (N a))).map fun _ => .bl true
  let l4 : List D := l3 ++ (bs.map (pr B)).map fun _ => .bl true
  let M1 : MS := M ++ [MO.lst l1]
  let M2 : MS := M1 ++ [MO.lst l2]
  let M3 : MS := M2 ++ [MO.lst l3]
  let M4 : MS := M3 ++ [MO.lst l4]
  let M5 : MS := M3 ++ [MO.lst (l4 ++ [.bl true])]
  let M6 : MS := M3 ++ [MO.lst (l4 ++ [.bl true] ++ [.bl true])]
  have s2 : rs2 [x0, some (.ref 0), some a, x3, x4, x5, x6, x7, x8, x9, x10, x11, x12, x13, x14, x15, x16, x17] M = .nx (st a x0 x3 x4 x5 x10 x11 x12 x13 x14 x15 x16 x17) M := by
    unfold rs2
    exact asg_ok ((call_ok (M1 := M) (ds := [a]) rfl).trans (made_ok a)) rfl
  have s3 : rs3 (st a x0 x3 x4 x5 x10 x11 x12 x13 x14 x15 x16 x17) M = .nx (st a x0 (some (.ref M.length)) x4 x5 x10 x11 x12 x13 x14 x15 x16 x17) M1 := by
    rw [rs3_eq]
    exact asg_ok (lcM_ok (ds := gs.map (pr (G a))) rfl rfl (fam (gE fl3))) rfl
  have s4 : rs4 (st a x0 (some (.ref M.length)) x4 x5 x10 x11 x12 x13 x14 x15 x16 x17) M1 = .nx (st a x0 (some (.ref M1.length)) x4 x5 x10 x11 x12 x13 x14 x15 x16 x17) M2 := by
    rw [rs4_eq]
    exact asg_ok ((op2_ok (M1 := M1) (x := .ref M.length) rfl (lc_ok (ds := ts.map (pr (T a))) rfl rfl (fam (tE fl3)))).trans (addM_ok rfl)) rfl
  have s5 : rs5 (st a x0 (some (.ref M1.length)) x4 x5 x10 x11 x12 x13 x14 x15 x16 x17) M2 = .nx (st a x0 (some (.ref M2.length)) x4 x5 x10 x11 x12 x13 x14 x15 x16 x17) M3 := by
    rw [rs5_eq]
    exact asg_ok ((op2_ok (M1 := M2) (x := .ref M1.length) rfl (lc_ok (ds := nms.map (pr (N a))) rfl rfl (fam (nE fl3)))).trans (addM_ok rfl)) rfl
  have s6 : rs6 (st a x0 (some (.ref M2.length)) x4 x5 x10 x11 x12 x13 x14 x15 x16 x17) M3 = .nx (st a x0 (some (.ref M3.length)) x4 x5 x10 x11 x12 x13 x14 x15 x16 x17) M4 := by
    rw [rs6_eq]
    exact asg_ok ((op2_ok (M1 := M3) (x := .ref M2.length) rfl (lc_ok (ds := bs.map (pr B)) rfl rfl (fam bE))).trans (addM_ok rfl)) rfl
  have s7 : rs7 (st a x0 (some (.ref M3.length)) x4 x5 x10 x11 x12 x13 x14 x15 x16 x17) M4 = .nx (st a x0 (some (.ref M3.length)) x4 x5 (some (many a)) (some (stuck a)) (some (full a)) x13 x14 x15 x16 x17) M4 := rfl
  have s8 : rs8 (st a x0 (some (.ref M3.length)) x4 x5 (some (many a)) (some (stuck a)) (some (full a)) x13 x14 x15 x16 x17) M4 = .nx (st a x0 (some (.ref M3.length)) x4 x5 (some (many a)) (some (stuck a)) (some (full a)) (some (unk a)) (some left) x15 x16 x17) M4 := rfl
  obtain ⟨o1, o2, o3, o4, o5, o6, o7⟩ := ok_str
  have f9 : flatN 4 (.lst [.str "TooMany", .str "late", a, .str "Stuck", .lst [a], .str "Full", a]) = true := flat_lst (fun d m => by
    simp only [List.mem_cons, List.not_mem_nil, or_false] at m
    rcases m with rfl | rfl | rfl | rfl | rfl | rfl | rfl
    · exact o1
    · exact o2
    · exact fl3
    · exact o3
    · exact fl2'
    · exact o4
    · exact fl3) (by simp)
  have f10 : flatN 4 (.lst [.str "UnknownName", a, .str "NothingLeft"]) = true := flat_lst (fun d m => by
    simp only [List.mem_cons, List.not_mem_nil, or_false] at m
    rcases m with rfl | rfl | rfl
    · exact o5
    · exact fl3
    · exact o6) (by simp)
  have f17 : flatN 4 (.lst [.str "x", .int 3, a]) = true := flat_lst (fun d m => by
    simp only [List.mem_cons, List.not_mem_nil, or_false] at m
    rcases m with rfl | rfl | rfl
    · exact o7
    · rfl
    · exact fl3) (by simp)
  have s9 : rs9 (st a x0 (some (.ref M3.length)) x4 x5 (some (many a)) (some (stuck a)) (some (full a)) (some (unk a)) (some left) x15 x16 x17) M4 = .nx (st a x0 (some (.ref M3.length)) x4 x5 (some (many a)) (some (stuck a)) (some (full a)) (some (unk a)) (some left) x15 x16 x17) M5 := by
    unfold rs9
    refine drop_ok ((mt_ok (d := .ref M3.length) (ds := [.bl true]) rfl ty_ref (cons_ok ((call_ok (M1 := M4) (ds := [.lst [.str "TooMany", .str "late", a, .str "Stuck", .lst [a], .str "Full", a], .lst [.str "TooMany", .str "late", a, .str "Stuck", .lst [a], .str "Full", a]]) rfl).trans (same_refl 4 _ _ f9)) nil_ok)).trans (app_ok rfl))
  have s10 : rs10 (st a x0 (some (.ref M3.length)) x4 x5 (some (many a)) (some (stuck a)) (some (full a)) (some (unk a)) (some left) x15 x16 x17) M5 = .nx (st a x0 (some (.ref M3.length)) x4 x5 (some (many a)) (some (stuck a)) (some (full a)) (some (unk a)) (some left) x15 x16 x17) M6 := by
    unfold rs10
    refine drop_ok ((mt_ok (d := .ref M3.length) (ds := [.bl true]) rfl ty_ref (cons_ok ((call_ok (M1 := M5) (ds := [.lst [.str "UnknownName", a, .str "NothingLeft"], .lst [.str "UnknownName", a, .str "NothingLeft"]]) rfl).trans (same_refl 4 _ _ f10)) nil_ok)).trans (app_ok rfl))
  have s11 : rs11 (st a x0 (some (.ref M3.length)) x4 x5 (some (many a)) (some (stuck a)) (some (full a)) (some (unk a)) (some left) x15 x16 x17) M6 = .nx (st a x0 (some (.ref M3.length)) x4 x5 (some (many a)) (some (stuck a)) (some (full a)) (some (unk a)) (some left) x15 x16 x17) M6 := by
    unfold rs11
    refine if_f ?_
    have e : rB (rFun (fAll false) (rCons (rV 3) rNil)) (st a x0 (some (.ref M3.length)) x4 x5 (some (many a)) (some (stuck a)) (some (full a)) (some (unk a)) (some left) x15 x16 x17) M6 = .ok true M6 := by
      refine b_ok ?_
      unfold rFun
      rw [cons_ok (v_ok (d := .ref M3.length) rfl) nil_ok]
      exact all_list rfl
    simp only [rNotT, e, Res.bind, Bool.not_true]
  have s12 : rs12 (st a x0 (some (.ref M3.length)) x4 x5 (some (many a)) (some (stuck a)) (some (full a)) (some (unk a)) (some left) x15 x16 x17) M6 = .nx (st a x0 (some (.ref M3.length)) (some (.lst (somes a))) x5 (some (many a)) (some (stuck a)) (some (full a)) (some (unk a)) (some left) x15 x16 x17) M6 := rfl
  have s13 : rs13 (st a x0 (some (.ref M3.length)) (some (.lst (somes a))) x5 (some (many a)) (some (stuck a)) (some (full a)) (some (unk a)) (some left) x15 x16 x17) M6 = .nx (st a x0 (some (.ref M3.length)) (some (.lst (somes a))) x5 (some (many a)) (some (stuck a)) (some (full a)) (some (unk a)) (some left) x15 x16 x17) M6 := by
    unfold rs13
    refine if_f ?_
    have e : rB (rFun (fAll false) (rCons (rLc (rItems (rV 4)) [15] (bName 15) rTrue eK) rNil)) (st a x0 (some (.ref M3.length)) (some (.lst (somes a))) x5 (some (many a)) (some (stuck a)) (some (full a)) (some (unk a)) (some left) x15 x16 x17) M6 = .ok true M6 := by
      refine b_ok ?_
      unfold rFun
      have body : ∀ d ∈ somes a, ∃ ρ', (bName 15) d (wipeE (st a x0 (some (.ref M3.length)) (some (.lst (somes a))) x5 (some (many a)) (some (stuck a)) (some (full a)) (some (unk a)) (some left) x15 x16 x17) [15]) = some ρ' ∧ eK ρ' M6 = .ok (.bl true) M6 := fun d m => by
        refine ⟨_, rfl, ?_⟩
        unfold eK
        exact (op2_ok (M1 := M6) (M2 := M6) (x := .lst b1) (y := .lst b1) ((call_ok (M1 := M6) (ds := [d]) rfl).trans (some_bases d m)) rfl).trans rfl
      have k : rLc (rItems (rV 4)) [15] (bName 15) rTrue eK (st a x0 (some (.ref M3.length)) (some (.lst (somes a))) x5 (some (many a)) (some (stuck a)) (some (full a)) (some (unk a)) (some left) x15 x16 x17) M6 = .ok (.lst ((somes a).map fun _ => .bl true)) M6 := lc_ok (ds := somes a) rfl rfl (loopC_map (fun _ => .bl true) _ body)
      rw [cons_ok k nil_ok]
      rfl
    have e' := e
    unfold eK at e'
    simp only [rNotT, e', Res.bind, Bool.not_true]
  have s14 : rs14 (st a x0 (some (.ref M3.length)) (some (.lst (somes a))) x5 (some (many a)) (some (stuck a)) (some (full a)) (some (unk a)) (some left) x15 x16 x17) M6 = .nx (st a x0 (some (.ref M3.length)) (some (.lst (somes a))) x5 (some (many a)) (some (stuck a)) (some (full a)) (some (unk a)) (some left) x15 x16 x17) M6 := by
    unfold rs14
    exact if_f (b_ok ((op2_ok (M1 := M6) (M2 := M6) (x := .lst [.bl false, .bl true, .bl false, .bl false, .bl true, .bl false]) (y := .lst [.bl false, .bl true, .bl false, .bl false, .bl true, .bl false]) ((call_ok (M1 := M6) (ds := [unk a]) rfl).trans (bases_of rfl)) rfl).trans rfl))
  have s15 : rs15 (st a x0 (some (.ref M3.length)) (some (.lst (somes a))) x5 (some (many a)) (some (stuck a)) (some (full a)) (some (unk a)) (some left) x15 x16 x17) M6 = .nx (st a x0 (some (.ref M3.length)) (some (.lst (somes a))) x5 (some (many a)) (some (stuck a)) (some (full a)) (some (unk a)) (some left) x15 x16 x17) M6 := by
    unfold rs15
    exact if_f (b_ok ((op2_ok (M1 := M6) (M2 := M6) (x := .lst [.bl false, .bl false, .bl true, .bl false, .bl true, .bl true]) (y := .lst [.bl false, .bl false, .bl true, .bl false, .bl true, .bl true]) ((call_ok (M1 := M6) (ds := [left]) rfl).trans (bases_of rfl)) rfl).trans rfl))
  have s16 : rs16 (st a x0 (some (.ref M3.length)) (some (.lst (somes a))) x5 (some (many a)) (some (stuck a)) (some (full a)) (some (unk a)) (some left) x15 x16 x17) M6 = .nx (st a x0 (some (.ref M3.length)) (some (.lst (somes a))) (some keyed) (some (many a)) (some (stuck a)) (some (full a)) (some (unk a)) (some left) x15 x16 x17) M6 := rfl
  have s17 : rs17 (st a x0 (some (.ref M3.length)) (some (.lst (somes a))) (some keyed) (some (many a)) (some (stuck a)) (some (full a)) (some (unk a)) (some left) x15 x16 x17) M6 = .rt (.bl true) M6 := by
    unfold rs17
    refine ret_ok ((and_ok ((call_ok (M1 := M6) (ds := [.lst [.str "x", .int 3, a], .lst [.str "x", .int 3, a]]) rfl).trans (same_refl 4 _ _ f17))).trans ?_)
    rfl
  refine ⟨M6, ?_⟩
  unfold rRest
  exact (th_nx s2).trans ((th_nx s3).trans ((th_nx s4).trans ((th_nx s5).trans ((th_nx s6).trans ((th_nx s7).trans ((th_nx s8).trans ((th_nx s9).trans ((th_nx s10).trans ((th_nx s11).trans ((th_nx s12).trans ((th_nx s13).trans ((th_nx s14).trans ((th_nx s15).trans ((th_nx s16).trans s17))))))))))))))
end
theorem law_pure (ns : List Int) (hl : ns.length ≤ 63) : ∃ M', f_law [.scr (ns.map D.int)] [] = .ok (.bl true) M' := by
  obtain ⟨M1, e1, d1, _⟩ := deal_ok hl
  obtain ⟨p, M2, e2, p1, p2, _, d2⟩ := pick_to (many := 1000000000) d1 (by omega) (by omega)
  obtain ⟨q, M3, e3, q1, q2, _, d3⟩ := pick_to (many := 9) d2 (by omega) (by omega)
  obtain ⟨a, M4, ha, e4, _, d4⟩ := of_lst (ds := [.int p, .int (0 - 1 - q), .str "late", .non, .tup [.int 1, .str "a"]]) d3 (by simp) (by simp)
  have oa : okS "a" = true := by decide +kernel
  have ol : okS "late" = true := by decide +kernel
  have fl : flatN 2 a = true := by
    simp only [List.mem_cons, List.not_mem_nil, or_false] at ha
    rcases ha with rfl | rfl | rfl | rfl | rfl
    · rfl
    · rfl
    · exact ol
    · rfl
    · exact flat_tup (fun d m => by
        simp only [List.mem_cons, List.not_mem_nil, or_false] at m
        rcases m with rfl | rfl
        · rfl
        · exact oa) (by simp)
  obtain ⟨M5, e5⟩ := rest_ok (M := M4) (x0 := some (.scr (ns.map D.int))) (x3 := none) (x4 := none) (x5 := none) (x10 := none) (x11 := none) (x12 := none) (x13 := none) (x14 := none) (x17 := none) fl none none none none none none
  refine ⟨M5.take 0, ?_⟩
  have r1 : rs1 [some (.scr (ns.map D.int)), some (.ref 0), none, none, none, none, none, none, none, none, none, none, none, none, none, none, none, none] M1 = .nx [some (.scr (ns.map D.int)), some (.ref 0), some a, none, none, none, none, none, none, none, none, none, none, none, none, none, none, none] M4 := by
    unfold rs1
    exact asg_ok ((call_ok (M1 := M3) (ds := [.ref 0, .lst [.int p, .int (0 - 1 - q), .str "late", .non, .tup [.int 1, .str "a"]]]) (cons_ok rfl (cons_ok (lst_ok (cons_ok ((call_ok (M1 := M1) (ds := [.ref 0, .int 1000000000]) rfl).trans e2) (cons_ok ((op2_ok (M1 := M2) (x := .int (0 - 1)) rfl ((call_ok (M1 := M2) (ds := [.ref 0, .int 9]) rfl).trans e3)).trans rfl) (cons_ok rfl (cons_ok rfl (cons_ok rfl nil_ok)))))) nil_ok))).trans e4) rfl
  have run : r_law (some (.scr (ns.map D.int)) :: List.replicate 17 none) [] = .rt (.bl true) M5 := by
    rw [law_eq]
    have r0 : rs0 (some (.scr (ns.map D.int)) :: List.replicate 17 none) [] = .nx [some (.scr (ns.map D.int)), some (.ref 0), none, none, none, none, none, none, none, none, none, none, none, none, none, none, none, none] M1 := by
      unfold rs0
      exact asg_ok ((call_ok (M1 := []) (ds := [.scr (ns.map D.int)]) rfl).trans e1) rfl
    exact (th_nx r0).trans ((th_nx r1).trans e5)
  show trim [] (endF (r_law (some (.scr (ns.map D.int)) :: List.replicate 17 none) [])) = _
  rw [run]
  exact trim_nil
end K01

namespace K01
open PySem PySem.Spec PyProof.Rows L2 LamX NdefX Q
def top (i : Nat) : Stmt := PySem.Challenge.pw_queuecut_k01_errors_by_themselves.main.body.getD i (.Pass ⟨0, 0, 0, 0⟩)
theorem bt_int : bootBuiltins "int" = some (.type "int") := by decide +kernel
theorem bt_len : bootBuiltins "len" = some (.builtin "len") := by decide +kernel
theorem bt_bool : bootBuiltins "bool" = some (.type "bool") := by decide +kernel
theorem bt_isinstance : bootBuiltins "isinstance" = some (.builtin "isinstance") := by decide +kernel
theorem bt_str : bootBuiltins "str" = some (.type "str") := by decide +kernel
theorem bt_list : bootBuiltins "list" = some (.type "list") := by decide +kernel
theorem bt_tuple : bootBuiltins "tuple" = some (.type "tuple") := by decide +kernel
theorem bt_all : bootBuiltins "all" = some (.builtin "all") := by decide +kernel
theorem bt_ValueError : bootBuiltins "ValueError" = some (.type "ValueError") := by decide +kernel
theorem bt_LookupError : bootBuiltins "LookupError" = some (.type "LookupError") := by decide +kernel
theorem bt_IndexError : bootBuiltins "IndexError" = some (.type "IndexError") := by decide +kernel
abbrev s__law_deal : Stmt := top 27
abbrev N__law_deal : List Str := ["_law_script", "_law_cells", "_law_mark", "_law_cell"]
theorem sc__law_deal : FnScope N__law_deal ["_law_script"] (defScope s__law_deal) := ⟨rfl, rfl, rfl, by decide +kernel, rfl, by decide +kernel, by decide +kernel⟩
def d__law_deal : DefQ := ⟨.glo "_law_deal", "_law_deal", "_law_deal", defArgs s__law_deal, defBody s__law_deal, defScope s__law_deal, [], [], []⟩
abbrev s__law_pick : Stmt := top 28
abbrev N__law_pick : List Str := ["_law_deal_here", "_law_many", "_law_drawn", "_law_cell", "_law_first", "_law_second"]
theorem sc__law_pick : FnScope N__law_pick ["_law_deal_here", "_law_many"] (defScope s__law_pick) := ⟨rfl, rfl, rfl, by decide +kernel, rfl, by decide +kernel, by decide +kernel⟩
def d__law_pick : DefQ := ⟨.glo "_law_pick", "_law_pick", "_law_pick", defArgs s__law_pick, defBody s__law_pick, defScope s__law_pick, [], [], []⟩
abbrev s__law_of : Stmt := top 29
abbrev N__law_of : List Str := ["_law_deal_here", "_law_items"]
theorem sc__law_of : FnScope N__law_of ["_law_deal_here", "_law_items"] (defScope s__law_of) := ⟨rfl, rfl, rfl, by decide +kernel, rfl, by decide +kernel, by decide +kernel⟩
def d__law_of : DefQ := ⟨.glo "_law_of", "_law_of", "_law_of", defArgs s__law_of, defBody s__law_of, defScope s__law_of, [], [], []⟩
abbrev s_InvalidName____init__ : Stmt := inClass (top 3) 0
abbrev N_InvalidName____init__ : List Str := ["self", "given"]
theorem sc_InvalidName____init__ : FnScope N_InvalidName____init__ ["self", "given"] (defScope s_InvalidName____init__) := ⟨rfl, rfl, rfl, by decide +kernel, rfl, by decide +kernel, by decide +kernel⟩
def d_InvalidName____init__ : DefQ := ⟨.meth "InvalidName" "__init__", "__init__", "InvalidName.__init__", defArgs s_InvalidName____init__, defBody s_InvalidName____init__, defScope s_InvalidName____init__, [], [], []⟩
abbrev s_InvalidNumber____init__ : Stmt := inClass (top 4) 0
abbrev N_InvalidNumber____init__ : List Str := ["self", "given"]
theorem sc_InvalidNumber____init__ : FnScope N_InvalidNumber____init__ ["self", "given"] (defScope s_InvalidNumber____init__) := ⟨rfl, rfl, rfl, by decide +kernel, rfl, by decide +kernel, by decide +kernel⟩
def d_InvalidNumber____init__ : DefQ := ⟨.meth "InvalidNumber" "__init__", "__init__", "InvalidNumber.__init__", defArgs s_InvalidNumber____init__, defBody s_InvalidNumber____init__, defScope s_InvalidNumber____init__, [], [], []⟩
abbrev s_InvalidBlocks____init__ : Stmt := inClass (top 5) 0
abbrev N_InvalidBlocks____init__ : List Str := ["self", "given"]
theorem sc_InvalidBlocks____init__ : FnScope N_InvalidBlocks____init__ ["self", "given"] (defScope s_InvalidBlocks____init__) := ⟨rfl, rfl, rfl, by decide +kernel, rfl, by decide +kernel, by decide +kernel⟩
def d_InvalidBlocks____init__ : DefQ := ⟨.meth "InvalidBlocks" "__init__", "__init__", "InvalidBlocks.__init__", defArgs s_InvalidBlocks____init__, defBody s_InvalidBlocks____init__, defScope s_InvalidBlocks____init__, [], [], []⟩
abbrev s_InvalidEvent____init__ : Stmt := inClass (top 11) 0
abbrev N_InvalidEvent____init__ : List Str := ["self", "given"]
theorem sc_InvalidEvent____init__ : FnScope N_InvalidEvent____init__ ["self", "given"] (defScope s_InvalidEvent____init__) := ⟨rfl, rfl, rfl, by decide +kernel, rfl, by decide +kernel, by decide +kernel⟩
def d_InvalidEvent____init__ : DefQ := ⟨.meth "InvalidEvent" "__init__", "__init__", "InvalidEvent.__init__", defArgs s_InvalidEvent____init__, defBody s_InvalidEvent____init__, defScope s_InvalidEvent____init__, [], [], []⟩
abbrev s_InvalidWeight____init__ : Stmt := inClass (top 12) 0
abbrev N_InvalidWeight____init__ : List Str := ["self", "given"]
theorem sc_InvalidWeight____init__ : FnScope N_InvalidWeight____init__ ["self", "given"] (defScope s_InvalidWeight____init__) := ⟨rfl, rfl, rfl, by decide +kernel, rfl, by decide +kernel, by decide +kernel⟩
def d_InvalidWeight____init__ : DefQ := ⟨.meth "InvalidWeight" "__init__", "__init__", "InvalidWeight.__init__", defArgs s_InvalidWeight____init__, defBody s_InvalidWeight____init__, defScope s_InvalidWeight____init__, [], [], []⟩
abbrev s_InvalidLimit____init__ : Stmt := inClass (top 16) 0
abbrev N_InvalidLimit____init__ : List Str := ["self", "given"]
theorem sc_InvalidLimit____init__ : FnScope N_InvalidLimit____init__ ["self", "given"] (defScope s_InvalidLimit____init__) := ⟨rfl, rfl, rfl, by decide +kernel, rfl, by decide +kernel, by decide +kernel⟩
def d_InvalidLimit____init__ : DefQ := ⟨.meth "InvalidLimit" "__init__", "__init__", "InvalidLimit.__init__", defArgs s_InvalidLimit____init__, defBody s_InvalidLimit____init__, defScope s_InvalidLimit____init__, [], [], []⟩
abbrev s_InvalidText____init__ : Stmt := inClass (top 6) 0
abbrev N_InvalidText____init__ : List Str := ["self", "at"]
theorem sc_InvalidText____init__ : FnScope N_InvalidText____init__ ["self", "at"] (defScope s_InvalidText____init__) := ⟨rfl, rfl, rfl, by decide +kernel, rfl, by decide +kernel, by decide +kernel⟩
def d_InvalidText____init__ : DefQ := ⟨.meth "InvalidText" "__init__", "__init__", "InvalidText.__init__", defArgs s_InvalidText____init__, defBody s_InvalidText____init__, defScope s_InvalidText____init__, [], [], []⟩
abbrev s_InvalidStep____init__ : Stmt := inClass (top 7) 0
abbrev N_InvalidStep____init__ : List Str := ["self", "at"]
theorem sc_InvalidStep____init__ : FnScope N_InvalidStep____init__ ["self", "at"] (defScope s_InvalidStep____init__) := ⟨rfl, rfl, rfl, by decide +kernel, rfl, by decide +kernel, by decide +kernel⟩
def d_InvalidStep____init__ : DefQ := ⟨.meth "InvalidStep" "__init__", "__init__", "InvalidStep.__init__", defArgs s_InvalidStep____init__, defBody s_InvalidStep____init__, defScope s_InvalidStep____init__, [], [], []⟩
abbrev s_InvalidAction____init__ : Stmt := inClass (top 9) 0
abbrev N_InvalidAction____init__ : List Str := ["self", "at"]
theorem sc_InvalidAction____init__ : FnScope N_InvalidAction____init__ ["self", "at"] (defScope s_InvalidAction____init__) := ⟨rfl, rfl, rfl, by decide +kernel, rfl, by decide +kernel, by decide +kernel⟩
def d_InvalidAction____init__ : DefQ := ⟨.meth "InvalidAction" "__init__", "__init__", "InvalidAction.__init__", defArgs s_InvalidAction____init__, defBody s_InvalidAction____init__, defScope s_InvalidAction____init__, [], [], []⟩
abbrev s_InvalidImage____init__ : Stmt := inClass (top 10) 0
abbrev N_InvalidImage____init__ : List Str := ["self", "at"]
theorem sc_InvalidImage____init__ : FnScope N_InvalidImage____init__ ["self", "at"] (defScope s_InvalidImage____init__) := ⟨rfl, rfl, rfl, by decide +kernel, rfl, by decide +kernel, by decide +kernel⟩
def d_InvalidImage____init__ : DefQ := ⟨.meth "InvalidImage" "__init__", "__init__", "InvalidImage.__init__", defArgs s_InvalidImage____init__, defBody s_InvalidImage____init__, defScope s_InvalidImage____init__, [], [], []⟩
abbrev s_InvalidChange____init__ : Stmt := inClass (top 14) 0
abbrev N_InvalidChange____init__ : List Str := ["self", "at"]
theorem sc_InvalidChange____init__ : FnScope N_InvalidChange____init__ ["self", "at"] (defScope s_InvalidChange____init__) := ⟨rfl, rfl, rfl, by decide +kernel, rfl, by decide +kernel, by decide +kernel⟩
def d_InvalidChange____init__ : DefQ := ⟨.meth "InvalidChange" "__init__", "__init__", "InvalidChange.__init__", defArgs s_InvalidChange____init__, defBody s_InvalidChange____init__, defScope s_InvalidChange____init__, [], [], []⟩
abbrev s_InvalidOffer____init__ : Stmt := inClass (top 15) 0
abbrev N_InvalidOffer____init__ : List Str := ["self", "at"]
theorem sc_InvalidOffer____init__ : FnScope N_InvalidOffer____init__ ["self", "at"] (defScope s_InvalidOffer____init__) := ⟨rfl, rfl, rfl, by decide +kernel, rfl, by decide +kernel, by decide +kernel⟩
def d_InvalidOffer____init__ : DefQ := ⟨.meth "InvalidOffer" "__init__", "__init__", "InvalidOffer.__init__", defArgs s_InvalidOffer____init__, defBody s_InvalidOffer____init__, defScope s_InvalidOffer____init__, [], [], []⟩
abbrev s_InvalidCommand____init__ : Stmt := inClass (top 17) 0
abbrev N_InvalidCommand____init__ : List Str := ["self", "at"]
theorem sc_InvalidCommand____init__ : FnScope N_InvalidCommand____init__ ["self", "at"] (defScope s_InvalidCommand____init__) := ⟨rfl, rfl, rfl, by decide +kernel, rfl, by decide +kernel, by decide +kernel⟩
def d_InvalidCommand____init__ : DefQ := ⟨.meth "InvalidCommand" "__init__", "__init__", "InvalidCommand.__init__", defArgs s_InvalidCommand____init__, defBody s_InvalidCommand____init__, defScope s_InvalidCommand____init__, [], [], []⟩
abbrev s_NotNow____init__ : Stmt := inClass (top 21) 0
abbrev N_NotNow____init__ : List Str := ["self", "at"]
theorem sc_NotNow____init__ : FnScope N_NotNow____init__ ["self", "at"] (defScope s_NotNow____init__) := ⟨rfl, rfl, rfl, by decide +kernel, rfl, by decide +kernel, by decide +kernel⟩
def d_NotNow____init__ : DefQ := ⟨.meth "NotNow" "__init__", "__init__", "NotNow.__init__", defArgs s_NotNow____init__, defBody s_NotNow____init__, defScope s_NotNow____init__, [], [], []⟩
abbrev s_InvalidMerge____init__ : Stmt := inClass (top 8) 0
abbrev N_InvalidMerge____init__ : List Str := ["self", "name"]
theorem sc_InvalidMerge____init__ : FnScope N_InvalidMerge____init__ ["self", "name"] (defScope s_InvalidMerge____init__) := ⟨rfl, rfl, rfl, by decide +kernel, rfl, by decide +kernel, by decide +kernel⟩
def d_InvalidMerge____init__ : DefQ := ⟨.meth "InvalidMerge" "__init__", "__init__", "InvalidMerge.__init__", defArgs s_InvalidMerge____init__, defBody s_InvalidMerge____init__, defScope s_InvalidMerge____init__, [], [], []⟩
abbrev s_DuplicateName____init__ : Stmt := inClass (top 18) 0
abbrev N_DuplicateName____init__ : List Str := ["self", "name"]
theorem sc_DuplicateName____init__ : FnScope N_DuplicateName____init__ ["self", "name"] (defScope s_DuplicateName____init__) := ⟨rfl, rfl, rfl, by decide +kernel, rfl, by decide +kernel, by decide +kernel⟩
def d_DuplicateName____init__ : DefQ := ⟨.meth "DuplicateName" "__init__", "__init__", "DuplicateName.__init__", defArgs s_DuplicateName____init__, defBody s_DuplicateName____init__, defScope s_DuplicateName____init__, [], [], []⟩
abbrev s_InvalidWish____init__ : Stmt := inClass (top 13) 0
abbrev N_InvalidWish____init__ : List Str := ["self"]
theorem sc_InvalidWish____init__ : FnScope N_InvalidWish____init__ ["self"] (defScope s_InvalidWish____init__) := ⟨rfl, rfl, rfl, by decide +kernel, rfl, by decide +kernel, by decide +kernel⟩
def d_InvalidWish____init__ : DefQ := ⟨.meth "InvalidWish" "__init__", "__init__", "InvalidWish.__init__", defArgs s_InvalidWish____init__, defBody s_InvalidWish____init__, defScope s_InvalidWish____init__, [], [], []⟩
abbrev s_NotComparable____init__ : Stmt := inClass (top 22) 0
abbrev N_NotComparable____init__ : List Str := ["self"]
theorem sc_NotComparable____init__ : FnScope N_NotComparable____init__ ["self"] (defScope s_NotComparable____init__) := ⟨rfl, rfl, rfl, by decide +kernel, rfl, by decide +kernel, by decide +kernel⟩
def d_NotComparable____init__ : DefQ := ⟨.meth "NotComparable" "__init__", "__init__", "NotComparable.__init__", defArgs s_NotComparable____init__, defBody s_NotComparable____init__, defScope s_NotComparable____init__, [], [], []⟩
abbrev s__law_made_errors : Stmt := top 32
abbrev N__law_made_errors : List Str := ["_law_a", "_law_given_z", "_law_spots", "_law_named", "_law_bare"]
theorem sc__law_made_errors : FnScope N__law_made_errors ["_law_a"] (defScope s__law_made_errors) := ⟨rfl, rfl, rfl, by decide +kernel, rfl, by decide +kernel, by decide +kernel⟩
def d__law_made_errors : DefQ := ⟨.glo "_law_made_errors", "_law_made_errors", "_law_made_errors", defArgs s__law_made_errors, defBody s__law_made_errors, defScope s__law_made_errors, [], [], []⟩
abbrev s__law_same : Stmt := top 30
abbrev N__law_same : List Str := ["_law_found", "_law_due", "_law_one", "_law_two"]
theorem sc__law_same : FnScope N__law_same ["_law_found", "_law_due"] (defScope s__law_same) := ⟨rfl, rfl, rfl, by decide +kernel, rfl, by decide +kernel, by decide +kernel⟩
def d__law_same : DefQ := ⟨.glo "_law_same", "_law_same", "_law_same", defArgs s__law_same, defBody s__law_same, defScope s__law_same, [], [], []⟩
abbrev s_TooMany____init__ : Stmt := inClass (top 19) 0
abbrev N_TooMany____init__ : List Str := ["self", "subject", "most"]
theorem sc_TooMany____init__ : FnScope N_TooMany____init__ ["self", "subject", "most"] (defScope s_TooMany____init__) := ⟨rfl, rfl, rfl, by decide +kernel, rfl, by decide +kernel, by decide +kernel⟩
def d_TooMany____init__ : DefQ := ⟨.meth "TooMany" "__init__", "__init__", "TooMany.__init__", defArgs s_TooMany____init__, defBody s_TooMany____init__, defScope s_TooMany____init__, [], [], []⟩
abbrev s_Stuck____init__ : Stmt := inClass (top 20) 0
abbrev N_Stuck____init__ : List Str := ["self", "ring"]
theorem sc_Stuck____init__ : FnScope N_Stuck____init__ ["self", "ring"] (defScope s_Stuck____init__) := ⟨rfl, rfl, rfl, by decide +kernel, rfl, by decide +kernel, by decide +kernel⟩
def d_Stuck____init__ : DefQ := ⟨.meth "Stuck" "__init__", "__init__", "Stuck.__init__", defArgs s_Stuck____init__, defBody s_Stuck____init__, defScope s_Stuck____init__, [], [], []⟩
abbrev s_Full____init__ : Stmt := inClass (top 23) 0
abbrev N_Full____init__ : List Str := ["self", "most"]
theorem sc_Full____init__ : FnScope N_Full____init__ ["self", "most"] (defScope s_Full____init__) := ⟨rfl, rfl, rfl, by decide +kernel, rfl, by decide +kernel, by decide +kernel⟩
def d_Full____init__ : DefQ := ⟨.meth "Full" "__init__", "__init__", "Full.__init__", defArgs s_Full____init__, defBody s_Full____init__, defScope s_Full____init__, [], [], []⟩
abbrev s_UnknownName____init__ : Stmt := inClass (top 24) 0
abbrev N_UnknownName____init__ : List Str := ["self", "name"]
theorem sc_UnknownName____init__ : FnScope N_UnknownName____init__ ["self", "name"] (defScope s_UnknownName____init__) := ⟨rfl, rfl, rfl, by decide +kernel, rfl, by decide +kernel, by decide +kernel⟩
def d_UnknownName____init__ : DefQ := ⟨.meth "UnknownName" "__init__", "__init__", "UnknownName.__init__", defArgs s_UnknownName____init__, defBody s_UnknownName____init__, defScope s_UnknownName____init__, [], [], []⟩
abbrev s_NothingLeft____init__ : Stmt := inClass (top 25) 0
abbrev N_NothingLeft____init__ : List Str := ["self"]
theorem sc_NothingLeft____init__ : FnScope N_NothingLeft____init__ ["self"] (defScope s_NothingLeft____init__) := ⟨rfl, rfl, rfl, by decide +kernel, rfl, by decide +kernel, by decide +kernel⟩
def d_NothingLeft____init__ : DefQ := ⟨.meth "NothingLeft" "__init__", "__init__", "NothingLeft.__init__", defArgs s_NothingLeft____init__, defBody s_NothingLeft____init__, defScope s_NothingLeft____init__, [], [], []⟩
abbrev s__law_bases : Stmt := top 31
abbrev N__law_bases : List Str := ["_law_e"]
theorem sc__law_bases : FnScope N__law_bases ["_law_e"] (defScope s__law_bases) := ⟨rfl, rfl, rfl, by decide +kernel, rfl, by decide +kernel, by decide +kernel⟩
def d__law_bases : DefQ := ⟨.glo "_law_bases", "_law_bases", "_law_bases", defArgs s__law_bases, defBody s__law_bases, defScope s__law_bases, [], [], []⟩
abbrev s_law : Stmt := top 33
abbrev N_law : List Str := ["_law_script", "_law_deal_here", "_law_a", "_law_found", "_law_some", "_law_keyed", "_law_given_z", "_law_spots", "_law_named", "_law_bare", "_law_many", "_law_stuck", "_law_full", "_law_name", "_law_left", "_law_e", "_law_code", "_law_pair"]
theorem sc_law : FnScope N_law ["_law_script"] (defScope s_law) := ⟨rfl, rfl, rfl, by decide +kernel, rfl, by decide +kernel, by decide +kernel⟩
def d_law : DefQ := ⟨.glo "law", "law", "law", defArgs s_law, defBody s_law, defScope s_law, [], [], []⟩
def lams : List LamTx := []
def ads : List (Ad × Str) := []
def fns : List DefQ := [d__law_deal, d__law_pick, d__law_of, d_InvalidName____init__, d_InvalidNumber____init__, d_InvalidBlocks____init__, d_InvalidEvent____init__, d_InvalidWeight____init__, d_InvalidLimit____init__, d_InvalidText____init__, d_InvalidStep____init__, d_InvalidAction____init__, d_InvalidImage____init__, d_InvalidChange____init__, d_InvalidOffer____init__, d_InvalidCommand____init__, d_NotNow____init__, d_InvalidMerge____init__, d_DuplicateName____init__, d_InvalidWish____init__, d_NotComparable____init__, d__law_made_errors, d__law_same, d_TooMany____init__, d_Stuck____init__, d_Full____init__, d_UnknownName____init__, d_NothingLeft____init__, d__law_bases, d_law]
def fas : List Fq := [Fq.h (.free "int"), Fq.h (.free "len"), Fq.h (.glo "_law_deal"), Fq.h (.glo "_law_pick"), Fq.h (.glo "_law_of"), Fq.ex (fun K => exAll K veT "ValueError.__new__" (He.ga K "InvalidName") ["code", "given"]), Fq.ex (fun K => exInitB K "InvalidName" (.meth "InvalidName" "__init__")), Fq.h (.glo "InvalidName"), Fq.ex (fun K => exAll K veT "ValueError.__new__" (He.ga K "InvalidNumber") ["code", "given"]), Fq.ex (fun K => exInitB K "InvalidNumber" (.meth "InvalidNumber" "__init__")), Fq.h (.glo "InvalidNumber"), Fq.ex (fun K => exAll K veT "ValueError.__new__" (He.ga K "InvalidBlocks") ["code", "given"]), Fq.ex (fun K => exInitB K "InvalidBlocks" (.meth "InvalidBlocks" "__init__")), Fq.h (.glo "InvalidBlocks"), Fq.ex (fun K => exAll K veT "ValueError.__new__" (He.ga K "InvalidEvent") ["code", "given"]), Fq.ex (fun K => exInitB K "InvalidEvent" (.meth "InvalidEvent" "__init__")), Fq.h (.glo "InvalidEvent"), Fq.ex (fun K => exAll K veT "ValueError.__new__" (He.ga K "InvalidWeight") ["code", "given"]), Fq.ex (fun K => exInitB K "InvalidWeight" (.meth "InvalidWeight" "__init__")), Fq.h (.glo "InvalidWeight"), Fq.ex (fun K => exAll K veT "ValueError.__new__" (He.ga K "InvalidLimit") ["code", "given"]), Fq.ex (fun K => exInitB K "InvalidLimit" (.meth "InvalidLimit" "__init__")), Fq.h (.glo "InvalidLimit"), Fq.ex (fun K => exAll K veT "ValueError.__new__" (He.ga K "InvalidText") ["code", "at"]), Fq.ex (fun K => exInitB K "InvalidText" (.meth "InvalidText" "__init__")), Fq.h (.glo "InvalidText"), Fq.ex (fun K => exAll K veT "ValueError.__new__" (He.ga K "InvalidStep") ["code", "at"]), Fq.ex (fun K => exInitB K "InvalidStep" (.meth "InvalidStep" "__init__")), Fq.h (.glo "InvalidStep"), Fq.ex (fun K => exAll K veT "ValueError.__new__" (He.ga K "InvalidAction") ["code", "at"]), Fq.ex (fun K => exInitB K "InvalidAction" (.meth "InvalidAction" "__init__")), Fq.h (.glo "InvalidAction"), Fq.ex (fun K => exAll K veT "ValueError.__new__" (He.ga K "InvalidImage") ["code", "at"]), Fq.ex (fun K => exInitB K "InvalidImage" (.meth "InvalidImage" "__init__")), Fq.h (.glo "InvalidImage"), Fq.ex (fun K => exAll K veT "ValueError.__new__" (He.ga K "InvalidChange") ["code", "at"]), Fq.ex (fun K => exInitB K "InvalidChange" (.meth "InvalidChange" "__init__")), Fq.h (.glo "InvalidChange"), Fq.ex (fun K => exAll K veT "ValueError.__new__" (He.ga K "InvalidOffer") ["code", "at"]), Fq.ex (fun K => exInitB K "InvalidOffer" (.meth "InvalidOffer" "__init__")), Fq.h (.glo "InvalidOffer"), Fq.ex (fun K => exAll K veT "ValueError.__new__" (He.ga K "InvalidCommand") ["code", "at"]), Fq.ex (fun K => exInitB K "InvalidCommand" (.meth "InvalidCommand" "__init__")), Fq.h (.glo "InvalidCommand"), Fq.ex (fun K => exAll K veT "ValueError.__new__" (He.ga K "NotNow") ["code", "at"]), Fq.ex (fun K => exInitB K "NotNow" (.meth "NotNow" "__init__")), Fq.h (.glo "NotNow"), Fq.ex (fun K => exAll K veT "ValueError.__new__" (He.ga K "InvalidMerge") ["code", "name"]), Fq.ex (fun K => exInitB K "InvalidMerge" (.meth "InvalidMerge" "__init__")), Fq.h (.glo "InvalidMerge"), Fq.ex (fun K => exAll K veT "ValueError.__new__" (He.ga K "DuplicateName") ["code", "name"]), Fq.ex (fun K => exInitB K "DuplicateName" (.meth "DuplicateName" "__init__")), Fq.h (.glo "DuplicateName"), Fq.ex (fun K => exAll K veT "ValueError.__new__" (He.ga K "InvalidWish") ["code"]), Fq.ex (fun K => exInitB K "InvalidWish" (.meth "InvalidWish" "__init__")), Fq.h (.glo "InvalidWish"), Fq.ex (fun K => exAll K veT "ValueError.__new__" (He.ga K "NotComparable") ["code"]), Fq.ex (fun K => exInitB K "NotComparable" (.meth "NotComparable" "__init__")), Fq.h (.glo "NotComparable"), Fq.h (.glo "_law_made_errors"), Fq.h (.free "bool"), Fq.h (.free "isinstance"), Fq.h (.free "str"), Fq.h (.free "list"), Fq.h (.free "tuple"), Fq.h (.free "zip"), Fq.h (.glo "_law_same"), Fq.h (.free "all"), Fq.ex (fun K => exAll K veT "ValueError.__new__" (He.ga K "TooMany") ["code", "subject", "most"]), Fq.ex (fun K => exInitB K "TooMany" (.meth "TooMany" "__init__")), Fq.h (.glo "TooMany"), Fq.ex (fun K => exAll K veT "ValueError.__new__" (He.ga K "Stuck") ["code", "ring"]), Fq.ex (fun K => exInitB K "Stuck" (.meth "Stuck" "__init__")), Fq.h (.glo "Stuck"), Fq.ex (fun K => exAll K veT "ValueError.__new__" (He.ga K "Full") ["code", "most"]), Fq.ex (fun K => exInitB K "Full" (.meth "Full" "__init__")), Fq.h (.glo "Full"), Fq.ex (fun K => exAll K leT "LookupError.__new__" (He.ga K "UnknownName") ["code", "name"]), Fq.ex (fun K => exInitB K "UnknownName" (.meth "UnknownName" "__init__")), Fq.h (.glo "UnknownName"), Fq.ex (fun K => exAll K ieT "IndexError.__new__" (He.ga K "NothingLeft") ["code"]), Fq.ex (fun K => exInitB K "NothingLeft" (.meth "NothingLeft" "__init__")), Fq.h (.glo "NothingLeft"), Fq.h (.glo "QueueError"), Fq.ex (fun K => isxB K ["QueueError", "Missing", "InvalidName", "InvalidNumber", "InvalidBlocks", "InvalidText", "InvalidStep", "InvalidMerge", "InvalidAction", "InvalidImage", "InvalidEvent", "InvalidWeight", "InvalidWish", "InvalidChange", "InvalidOffer", "InvalidLimit", "InvalidCommand", "DuplicateName", "TooMany", "Stuck", "NotNow", "NotComparable", "Full", "UnknownName", "NothingLeft"] xtb), Fq.h (.glo "Missing"), Fq.h (.free "ValueError"), Fq.h (.free "LookupError"), Fq.h (.free "IndexError"), Fq.h (.glo "_law_bases"), Fq.ex (fun K => exBaseB K "QueueError" "ValueError.__init__"), Fq.ex (fun K => exBaseB K "Missing" "LookupError.__init__"), Fq.ex (fun K => exTypB K "IndexError" "IndexError.__init__"), Fq.ex (fun K => isB K tb), Fq.ex (fun K => insB K []), Fq.h (.glo "law")]
abbrev cls : List Str := ["QueueError", "Missing", "InvalidName", "InvalidNumber", "InvalidBlocks", "InvalidText", "InvalidStep", "InvalidMerge", "InvalidAction", "InvalidImage", "InvalidEvent", "InvalidWeight", "InvalidWish", "InvalidChange", "InvalidOffer", "InvalidLimit", "InvalidCommand", "DuplicateName", "TooMany", "Stuck", "NotNow", "NotComparable", "Full", "UnknownName", "NothingLeft"]
theorem xtb_in : (xtb.all fun p => match p.1.2 with | .inr u => cls.contains u | .inl _ => true) = true := by decide +kernel
theorem xf_at {c : Cl} {mg : Str → Option Value} {c0 : Cl} (A : CA cls c) (S : Kq fas fns cls c0 mg) (hK : c0.K = c.K := by rfl) : XfOk c ["InvalidText", "InvalidStep", "InvalidAction", "InvalidImage", "InvalidChange", "InvalidOffer", "InvalidCommand", "NotNow"] "at" := by
  have hx : ∀ {i : Nat} {n : Str} {tl : List Value} {nw : String} {fl : List Str} {b : PySem.W.Frag → Bool}, fas[i]? = some (.ex b) → b c.K = true := fun h => by rw [← hK]; exact S.ex _ h
  exact (xfOk_cons (A.at_ "InvalidText" (by decide)) (exAll_ok (hx (i := 23) (n := "") (tl := []) (nw := "") (fl := []) rfl)).2.1 ((exAll_ok (hx (i := 23) (n := "") (tl := []) (nw := "") (fl := []) rfl)).2.2.1 _ (by decide)) (xfOk_cons (A.at_ "InvalidStep" (by decide)) (exAll_ok (hx (i := 26) (n := "") (tl := []) (nw := "") (fl := []) rfl)).2.1 ((exAll_ok (hx (i := 26) (n := "") (tl := []) (nw := "") (fl := []) rfl)).2.2.1 _ (by decide)) (xfOk_cons (A.at_ "InvalidAction" (by decide)) (exAll_ok (hx (i := 29) (n := "") (tl := []) (nw := "") (fl := []) rfl)).2.1 ((exAll_ok (hx (i := 29) (n := "") (tl := []) (nw := "") (fl := []) rfl)).2.2.1 _ (by decide)) (xfOk_cons (A.at_ "InvalidImage" (by decide)) (exAll_ok (hx (i := 32) (n := "") (tl := []) (nw := "") (fl := []) rfl)).2.1 ((exAll_ok (hx (i := 32) (n := "") (tl := []) (nw := "") (fl := []) rfl)).2.2.1 _ (by decide)) (xfOk_cons (A.at_ "InvalidChange" (by decide)) (exAll_ok (hx (i := 35) (n := "") (tl := []) (nw := "") (fl := []) rfl)).2.1 ((exAll_ok (hx (i := 35) (n := "") (tl := []) (nw := "") (fl := []) rfl)).2.2.1 _ (by decide)) (xfOk_cons (A.at_ "InvalidOffer" (by decide)) (exAll_ok (hx (i := 38) (n := "") (tl := []) (nw := "") (fl := []) rfl)).2.1 ((exAll_ok (hx (i := 38) (n := "") (tl := []) (nw := "") (fl := []) rfl)).2.2.1 _ (by decide)) (xfOk_cons (A.at_ "InvalidCommand" (by decide)) (exAll_ok (hx (i := 41) (n := "") (tl := []) (nw := "") (fl := []) rfl)).2.1 ((exAll_ok (hx (i := 41) (n := "") (tl := []) (nw := "") (fl := []) rfl)).2.2.1 _ (by decide)) (xfOk_cons (A.at_ "NotNow" (by decide)) (exAll_ok (hx (i := 44) (n := "") (tl := []) (nw := "") (fl := []) rfl)).2.1 ((exAll_ok (hx (i := 44) (n := "") (tl := []) (nw := "") (fl := []) rfl)).2.2.1 _ (by decide)) xfOk_nil))))))))
theorem xf_code {c : Cl} {mg : Str → Option Value} {c0 : Cl} (A : CA cls c) (S : Kq fas fns cls c0 mg) (hK : c0.K = c.K := by rfl) : XfOk c ["InvalidName", "InvalidNumber", "InvalidBlocks", "InvalidText", "InvalidStep", "InvalidMerge", "InvalidAction", "InvalidImage", "InvalidEvent", "InvalidWeight", "InvalidWish", "InvalidChange", "InvalidOffer", "InvalidLimit", "InvalidCommand", "DuplicateName", "TooMany", "Stuck", "NotNow", "NotComparable", "Full", "UnknownName", "NothingLeft"] "code" := by
  have hx : ∀ {i : Nat} {n : Str} {tl : List Value} {nw : String} {fl : List Str} {b : PySem.W.Frag → Bool}, fas[i]? = some (.ex b) → b c.K = true := fun h => by rw [← hK]; exact S.ex _ h
  exact (xfOk_cons (A.at_ "InvalidName" (by decide)) (exAll_ok (hx (i := 5) (n := "") (tl := []) (nw := "") (fl := []) rfl)).2.1 ((exAll_ok (hx (i := 5) (n := "") (tl := []) (nw := "") (fl := []) rfl)).2.2.1 _ (by decide)) (xfOk_cons (A.at_ "InvalidNumber" (by decide)) (exAll_ok (hx (i := 8) (n := "") (tl := []) (nw := "") (fl := []) rfl)).2.1 ((exAll_ok (hx (i := 8) (n := "") (tl := []) (nw := "") (fl := []) rfl)).2.2.1 _ (by decide)) (xfOk_cons (A.at_ "InvalidBlocks" (by decide)) (exAll_ok (hx (i := 11) (n := "") (tl := []) (nw := "") (fl := []) rfl)).2.1 ((exAll_ok (hx (i := 11) (n := "") (tl := []) (nw := "") (fl := []) rfl)).2.2.1 _ (by decide)) (xfOk_cons (A.at_ "InvalidText" (by decide)) (exAll_ok (hx (i := 23) (n := "") (tl := []) (nw := "") (fl := []) rfl)).2.1 ((exAll_ok (hx (i := 23) (n := "") (tl := []) (nw := "") (fl := []) rfl)).2.2.1 _ (by decide)) (xfOk_cons (A.at_ "InvalidStep" (by decide)) (exAll_ok (hx (i := 26) (n := "") (tl := []) (nw := "") (fl := []) rfl)).2.1 ((exAll_ok (hx (i := 26) (n := "") (tl := []) (nw := "") (fl := []) rfl)).2.2.1 _ (by decide)) (xfOk_cons (A.at_ "InvalidMerge" (by decide)) (exAll_ok (hx (i := 47) (n := "") (tl := []) (nw := "") (fl := []) rfl)).2.1 ((exAll_ok (hx (i := 47) (n := "") (tl := []) (nw := "") (fl := []) rfl)).2.2.1 _ (by decide)) (xfOk_cons (A.at_ "InvalidAction" (by decide)) (exAll_ok (hx (i := 29) (n := "") (tl := []) (nw := "") (fl := []) rfl)).2.1 ((exAll_ok (hx (i := 29) (n := "") (tl := []) (nw := "") (fl := []) rfl)).2.2.1 _ (by decide)) (xfOk_cons (A.at_ "InvalidImage" (by decide)) (exAll_ok (hx (i := 32) (n := "") (tl := []) (nw := "") (fl := []) rfl)).2.1 ((exAll_ok (hx (i := 32) (n := "") (tl := []) (nw := "") (fl := []) rfl)).2.2.1 _ (by decide)) (xfOk_cons (A.at_ "InvalidEvent" (by decide)) (exAll_ok (hx (i := 14) (n := "") (tl := []) (nw := "") (fl := []) rfl)).2.1 ((exAll_ok (hx (i := 14) (n := "") (tl := []) (nw := "") (fl := []) rfl)).2.2.1 _ (by decide)) (xfOk_cons (A.at_ "InvalidWeight" (by decide)) (exAll_ok (hx (i := 17) (n := "") (tl := []) (nw := "") (fl := []) rfl)).2.1 ((exAll_ok (hx (i := 17) (n := "") (tl := []) (nw := "") (fl := []) rfl)).2.2.1 _ (by decide)) (xfOk_cons (A.at_ "InvalidWish" (by decide)) (exAll_ok (hx (i := 53) (n := "") (tl := []) (nw := "") (fl := []) rfl)).2.1 ((exAll_ok (hx (i := 53) (n := "") (tl := []) (nw := "") (fl := []) rfl)).2.2.1 _ (by decide)) (xfOk_cons (A.at_ "InvalidChange" (by decide)) (exAll_ok (hx (i := 35) (n := "") (tl := []) (nw := "") (fl := []) rfl)).2.1 ((exAll_ok (hx (i := 35) (n := "") (tl := []) (nw := "") (fl := []) rfl)).2.2.1 _ (by decide)) (xfOk_cons (A.at_ "InvalidOffer" (by decide)) (exAll_ok (hx (i := 38) (n := "") (tl := []) (nw := "") (fl := []) rfl)).2.1 ((exAll_ok (hx (i := 38) (n := "") (tl := []) (nw := "") (fl := []) rfl)).2.2.1 _ (by decide)) (xfOk_cons (A.at_ "InvalidLimit" (by decide)) (exAll_ok (hx (i := 20) (n := "") (tl := []) (nw := "") (fl := []) rfl)).2.1 ((exAll_ok (hx (i := 20) (n := "") (tl := []) (nw := "") (fl := []) rfl)).2.2.1 _ (by decide)) (xfOk_cons (A.at_ "InvalidCommand" (by decide)) (exAll_ok (hx (i := 41) (n := "") (tl := []) (nw := "") (fl := []) rfl)).2.1 ((exAll_ok (hx (i := 41) (n := "") (tl := []) (nw := "") (fl := []) rfl)).2.2.1 _ (by decide)) (xfOk_cons (A.at_ "DuplicateName" (by decide)) (exAll_ok (hx (i := 50) (n := "") (tl := []) (nw := "") (fl := []) rfl)).2.1 ((exAll_ok (hx (i := 50) (n := "") (tl := []) (nw := "") (fl := []) rfl)).2.2.1 _ (by decide)) (xfOk_cons (A.at_ "TooMany" (by decide)) (exAll_ok (hx (i := 68) (n := "") (tl := []) (nw := "") (fl := []) rfl)).2.1 ((exAll_ok (hx (i := 68) (n := "") (tl := []) (nw := "") (fl := []) rfl)).2.2.1 _ (by decide)) (xfOk_cons (A.at_ "Stuck" (by decide)) (exAll_ok (hx (i := 71) (n := "") (tl := []) (nw := "") (fl := []) rfl)).2.1 ((exAll_ok (hx (i := 71) (n := "") (tl := []) (nw := "") (fl := []) rfl)).2.2.1 _ (by decide)) (xfOk_cons (A.at_ "NotNow" (by decide)) (exAll_ok (hx (i := 44) (n := "") (tl := []) (nw := "") (fl := []) rfl)).2.1 ((exAll_ok (hx (i := 44) (n := "") (tl := []) (nw := "") (fl := []) rfl)).2.2.1 _ (by decide)) (xfOk_cons (A.at_ "NotComparable" (by decide)) (exAll_ok (hx (i := 56) (n := "") (tl := []) (nw := "") (fl := []) rfl)).2.1 ((exAll_ok (hx (i := 56) (n := "") (tl := []) (nw := "") (fl := []) rfl)).2.2.1 _ (by decide)) (xfOk_cons (A.at_ "Full" (by decide)) (exAll_ok (hx (i := 74) (n := "") (tl := []) (nw := "") (fl := []) rfl)).2.1 ((exAll_ok (hx (i := 74) (n := "") (tl := []) (nw := "") (fl := []) rfl)).2.2.1 _ (by decide)) (xfOk_cons (A.at_ "UnknownName" (by decide)) (exAll_ok (hx (i := 77) (n := "") (tl := []) (nw := "") (fl := []) rfl)).2.1 ((exAll_ok (hx (i := 77) (n := "") (tl := []) (nw := "") (fl := []) rfl)).2.2.1 _ (by decide)) (xfOk_cons (A.at_ "NothingLeft" (by decide)) (exAll_ok (hx (i := 80) (n := "") (tl := []) (nw := "") (fl := []) rfl)).2.1 ((exAll_ok (hx (i := 80) (n := "") (tl := []) (nw := "") (fl := []) rfl)).2.2.1 _ (by decide)) xfOk_nil)))))))))))))))))))))))
theorem xf_given {c : Cl} {mg : Str → Option Value} {c0 : Cl} (A : CA cls c) (S : Kq fas fns cls c0 mg) (hK : c0.K = c.K := by rfl) : XfOk c ["InvalidName", "InvalidNumber", "InvalidBlocks", "InvalidEvent", "InvalidWeight", "InvalidLimit"] "given" := by
  have hx : ∀ {i : Nat} {n : Str} {tl : List Value} {nw : String} {fl : List Str} {b : PySem.W.Frag → Bool}, fas[i]? = some (.ex b) → b c.K = true := fun h => by rw [← hK]; exact S.ex _ h
  exact (xfOk_cons (A.at_ "InvalidName" (by decide)) (exAll_ok (hx (i := 5) (n := "") (tl := []) (nw := "") (fl := []) rfl)).2.1 ((exAll_ok (hx (i := 5) (n := "") (tl := []) (nw := "") (fl := []) rfl)).2.2.1 _ (by decide)) (xfOk_cons (A.at_ "InvalidNumber" (by decide)) (exAll_ok (hx (i := 8) (n := "") (tl := []) (nw := "") (fl := []) rfl)).2.1 ((exAll_ok (hx (i := 8) (n := "") (tl := []) (nw := "") (fl := []) rfl)).2.2.1 _ (by decide)) (xfOk_cons (A.at_ "InvalidBlocks" (by decide)) (exAll_ok (hx (i := 11) (n := "") (tl := []) (nw := "") (fl := []) rfl)).2.1 ((exAll_ok (hx (i := 11) (n := "") (tl := []) (nw := "") (fl := []) rfl)).2.2.1 _ (by decide)) (xfOk_cons (A.at_ "InvalidEvent" (by decide)) (exAll_ok (hx (i := 14) (n := "") (tl := []) (nw := "") (fl := []) rfl)).2.1 ((exAll_ok (hx (i := 14) (n := "") (tl := []) (nw := "") (fl := []) rfl)).2.2.1 _ (by decide)) (xfOk_cons (A.at_ "InvalidWeight" (by decide)) (exAll_ok (hx (i := 17) (n := "") (tl := []) (nw := "") (fl := []) rfl)).2.1 ((exAll_ok (hx (i := 17) (n := "") (tl := []) (nw := "") (fl := []) rfl)).2.2.1 _ (by decide)) (xfOk_cons (A.at_ "InvalidLimit" (by decide)) (exAll_ok (hx (i := 20) (n := "") (tl := []) (nw := "") (fl := []) rfl)).2.1 ((exAll_ok (hx (i := 20) (n := "") (tl := []) (nw := "") (fl := []) rfl)).2.2.1 _ (by decide)) xfOk_nil))))))
theorem xf_most {c : Cl} {mg : Str → Option Value} {c0 : Cl} (A : CA cls c) (S : Kq fas fns cls c0 mg) (hK : c0.K = c.K := by rfl) : XfOk c ["TooMany", "Full"] "most" := by
  have hx : ∀ {i : Nat} {n : Str} {tl : List Value} {nw : String} {fl : List Str} {b : PySem.W.Frag → Bool}, fas[i]? = some (.ex b) → b c.K = true := fun h => by rw [← hK]; exact S.ex _ h
  exact (xfOk_cons (A.at_ "TooMany" (by decide)) (exAll_ok (hx (i := 68) (n := "") (tl := []) (nw := "") (fl := []) rfl)).2.1 ((exAll_ok (hx (i := 68) (n := "") (tl := []) (nw := "") (fl := []) rfl)).2.2.1 _ (by decide)) (xfOk_cons (A.at_ "Full" (by decide)) (exAll_ok (hx (i := 74) (n := "") (tl := []) (nw := "") (fl := []) rfl)).2.1 ((exAll_ok (hx (i := 74) (n := "") (tl := []) (nw := "") (fl := []) rfl)).2.2.1 _ (by decide)) xfOk_nil))
theorem xf_name {c : Cl} {mg : Str → Option Value} {c0 : Cl} (A : CA cls c) (S : Kq fas fns cls c0 mg) (hK : c0.K = c.K := by rfl) : XfOk c ["InvalidMerge", "DuplicateName", "UnknownName"] "name" := by
  have hx : ∀ {i : Nat} {n : Str} {tl : List Value} {nw : String} {fl : List Str} {b : PySem.W.Frag → Bool}, fas[i]? = some (.ex b) → b c.K = true := fun h => by rw [← hK]; exact S.ex _ h
  exact (xfOk_cons (A.at_ "InvalidMerge" (by decide)) (exAll_ok (hx (i := 47) (n := "") (tl := []) (nw := "") (fl := []) rfl)).2.1 ((exAll_ok (hx (i := 47) (n := "") (tl := []) (nw := "") (fl := []) rfl)).2.2.1 _ (by decide)) (xfOk_cons (A.at_ "DuplicateName" (by decide)) (exAll_ok (hx (i := 50) (n := "") (tl := []) (nw := "") (fl := []) rfl)).2.1 ((exAll_ok (hx (i := 50) (n := "") (tl := []) (nw := "") (fl := []) rfl)).2.2.1 _ (by decide)) (xfOk_cons (A.at_ "UnknownName" (by decide)) (exAll_ok (hx (i := 77) (n := "") (tl := []) (nw := "") (fl := []) rfl)).2.1 ((exAll_ok (hx (i := 77) (n := "") (tl := []) (nw := "") (fl := []) rfl)).2.2.1 _ (by decide)) xfOk_nil)))
theorem xf_ring {c : Cl} {mg : Str → Option Value} {c0 : Cl} (A : CA cls c) (S : Kq fas fns cls c0 mg) (hK : c0.K = c.K := by rfl) : XfOk c ["Stuck"] "ring" := by
  have hx : ∀ {i : Nat} {n : Str} {tl : List Value} {nw : String} {fl : List Str} {b : PySem.W.Frag → Bool}, fas[i]? = some (.ex b) → b c.K = true := fun h => by rw [← hK]; exact S.ex _ h
  exact (xfOk_cons (A.at_ "Stuck" (by decide)) (exAll_ok (hx (i := 71) (n := "") (tl := []) (nw := "") (fl := []) rfl)).2.1 ((exAll_ok (hx (i := 71) (n := "") (tl := []) (nw := "") (fl := []) rfl)).2.2.1 _ (by decide)) xfOk_nil)
theorem xf_subject {c : Cl} {mg : Str → Option Value} {c0 : Cl} (A : CA cls c) (S : Kq fas fns cls c0 mg) (hK : c0.K = c.K := by rfl) : XfOk c ["TooMany"] "subject" := by
  have hx : ∀ {i : Nat} {n : Str} {tl : List Value} {nw : String} {fl : List Str} {b : PySem.W.Frag → Bool}, fas[i]? = some (.ex b) → b c.K = true := fun h => by rw [← hK]; exact S.ex _ h
  exact (xfOk_cons (A.at_ "TooMany" (by decide)) (exAll_ok (hx (i := 68) (n := "") (tl := []) (nw := "") (fl := []) rfl)).2.1 ((exAll_ok (hx (i := 68) (n := "") (tl := []) (nw := "") (fl := []) rfl)).2.2.1 _ (by decide)) xfOk_nil)
section
variable {P : Program} {w : World} {c : Cl} {mg : Str → Option Value} {base : Heap}
theorem ok__law_deal (S : Kq fas fns cls c mg) (A : CW cls lams c) : Dq P w c mg base d__law_deal 1 ["_law_script"] f__law_deal := by
  refine dqM_ok S 0 rfl rfl sc__law_deal (fun f cdv A0 outer s H E hr => ?_)
  exact (ss_cons (st_setLc (own := [("_law_cell", 3)]) (ps_setLc (i := 1) (own := [("_law_cell", 3)]) rfl sc__law_deal.nd rfl rfl (sw_true rfl rfl rfl (by decide +kernel)) (i_items md_body.k (s_sl md_body.k (s_var (pv 0)) so_none (so_some s_int))) (blkOk_by (N := N__law_deal) (sc := defScope s__law_deal) (by decide +kernel)) (fun _ _ _ _ _ => (pg_name (i := 3) sc__law_deal.nd rfl (Or.inl rfl))) (fun _ _ _ _ _ => ts_nil) (fun _ _ _ _ _ => (s_fun c_int (pe_callTy call_intAll (by rfl) (S.free 0) bt_int (s_cons (s_var (pv 3)) s_nil))))) tg_name)
    (ss_cons (st_set (i := 2) sc__law_deal.nd rfl (Or.inl rfl) (s_bin op_addAll o_add s_int (s_bin op_mul o_mul s_int (s_fun c_len (pe_callB call_len (by rfl) (S.free 1) bt_len (s_cons (s_var (pv 1)) s_nil))))))
    (ss_cons (st_for (passes_of rfl) rfl (i_items md_body.k (s_var (pv 1))) (pg_name (i := 3) sc__law_deal.nd rfl (Or.inl rfl)) tg_name (ss_one (st_set (i := 2) sc__law_deal.nd rfl (Or.inl rfl) (s_bin op_mod o_mod (s_fun c_int (pe_callTy call_intAll (by rfl) (S.free 0) bt_int (s_cons (s_bin op_addAll o_add (s_bin op_mul o_mul (s_var (pv 2)) s_int) (s_var (pv 3))) s_nil))) s_int))))
    (ss_one (st_ret (s_lstM (s_cons (s_var (pv 1)) (s_cons s_int (s_cons s_int (s_cons (s_var (pv 2)) s_nil))))))))))
theorem ok__law_pick (S : Kq fas fns cls c mg) (A : CW cls lams c) : Dq P w c mg base d__law_pick 1 ["_law_deal_here", "_law_many"] f__law_pick := by
  refine dqM_ok S 1 rfl rfl sc__law_pick (fun f cdv A0 outer s H E hr => ?_)
  exact (ss_cons (st_if (t_cmp op_lt (o_int (f := fun i j => decide (i < j))) (s_ix md_body.k (s_var (pv 0)) s_int) s_int) (ss_cons (st_put (s_bin op_addAll o_add (s_ix md_body.k (s_var (pv 0)) s_int) s_int) (s_var (pv 0)) s_int (ps_asg (s_bin op_addAll o_add (s_ix md_body.k (s_var (pv 0)) s_int) s_int) (pg_sub (s_var (pv 0)) s_int set_list)))
    (ss_cons (st_set (i := 3) sc__law_pick.nd rfl (Or.inl rfl) (s_bin op_addAll o_add (s_ix md_body.k (s_var (pv 0)) s_int) (s_bin op_mul o_mul (s_ix md_body.k (s_var (pv 0)) s_int) s_int)))
    (ss_cons (st_if (t_cmp op_le (o_int (f := fun i j => decide (i ≤ j))) (s_ix md_body.k (s_var (pv 0)) s_int) (s_fun c_len (pe_callB call_len (by rfl) (S.free 1) bt_len (s_cons (s_ix md_body.k (s_var (pv 0)) s_int) s_nil)))) (ss_one (st_set (i := 3) sc__law_pick.nd rfl (Or.inl rfl) (s_ix md_body.k (s_ix md_body.k (s_var (pv 0)) s_int) (s_bin op_sub o_sub (s_ix md_body.k (s_var (pv 0)) s_int) s_int)))) ss_nil)
    (ss_cons (st_if (w_or (t_cmp op_gt (o_int (f := fun i j => decide (j < i))) (s_ix md_body.k (s_var (pv 0)) s_int) (s_fun c_len (pe_callB call_len (by rfl) (S.free 1) bt_len (s_cons (s_ix md_body.k (s_var (pv 0)) s_int) s_nil)))) (w_or1 (t_cmp op_lt (o_int (f := fun i j => decide (i < j))) (s_var (pv 3)) (s_bin op_pow o_pow s_int s_int)))).pt (ss_cons (st_set (i := 4) sc__law_pick.nd rfl (Or.inl rfl) (s_bin op_mod o_mod (s_fun c_int (pe_callTy call_intAll (by rfl) (S.free 0) bt_int (s_cons (s_bin op_addAll o_add (s_bin op_addAll o_add (s_bin op_mul o_mul (s_var (pv 3)) s_int) (s_bin op_mul o_mul (s_ix md_body.k (s_var (pv 0)) s_int) s_int)) (s_ix md_body.k (s_var (pv 0)) s_int)) s_nil))) s_int))
    (ss_cons (st_set (i := 5) sc__law_pick.nd rfl (Or.inl rfl) (s_bin op_mod o_mod (s_fun c_int (pe_callTy call_intAll (by rfl) (S.free 0) bt_int (s_cons (s_bin op_addAll o_add (s_bin op_mul o_mul (s_var (pv 4)) (s_var (pv 4))) (s_bin op_mul o_mul (s_ix md_body.k (s_var (pv 0)) s_int) s_int)) s_nil))) s_int))
    (ss_one (st_ret (s_bin op_mod o_mod (s_bin op_fdiv o_div (s_bin op_mod o_mod (s_fun c_int (pe_callTy call_intAll (by rfl) (S.free 0) bt_int (s_cons (s_bin op_addAll o_add (s_bin op_mul o_mul (s_var (pv 5)) s_int) (s_var (pv 4))) s_nil))) s_int) s_int) (s_var (pv 1))))))) ss_nil)
    (ss_one (st_put (s_var (pv 3)) (s_var (pv 0)) s_int (ps_asg (s_var (pv 3)) (pg_sub (s_var (pv 0)) s_int set_list)))))))) ss_nil)
    (ss_cons (st_set (i := 2) sc__law_pick.nd rfl (Or.inl rfl) (s_bin op_mod o_mod (s_fun c_int (pe_callTy call_intAll (by rfl) (S.free 0) bt_int (s_cons (s_ix md_body.k (s_var (pv 0)) s_int) s_nil))) (s_var (pv 1))))
    (ss_cons (st_put (s_bin op_fdiv o_div (s_fun c_int (pe_callTy call_intAll (by rfl) (S.free 0) bt_int (s_cons (s_ix md_body.k (s_var (pv 0)) s_int) s_nil))) (s_var (pv 1))) (s_var (pv 0)) s_int (ps_asg (s_bin op_fdiv o_div (s_fun c_int (pe_callTy call_intAll (by rfl) (S.free 0) bt_int (s_cons (s_ix md_body.k (s_var (pv 0)) s_int) s_nil))) (s_var (pv 1))) (pg_sub (s_var (pv 0)) s_int set_list)))
    (ss_one (st_ret (s_var (pv 2)))))))
theorem ok__law_of (S : Kq fas fns cls c mg) (A : CW cls lams c) (D__law_pick : Dq P w c mg base d__law_pick 1 ["_law_deal_here", "_law_many"] f__law_pick) : Dq P w c mg base d__law_of 2 ["_law_deal_here", "_law_items"] f__law_of := by
  refine dq_ok S 2 rfl rfl sc__law_of (fun f cdv A0 outer s H E hr => ?_)
  exact (ss_one (st_ret (s_ix md_body.k (s_var (pv 1)) (s_d md_body D__law_pick (hr.mono (by decide)) (S.glo 3) rfl (fun _ _ _ _ _ _ _ us hl => match us, hl with | [_, _], _ => rfl) (s_cons (s_var (pv 0)) (s_cons (s_fun c_len (pe_callB call_len (by rfl) (S.free 1) bt_len (s_cons (s_var (pv 1)) s_nil))) s_nil))))))
theorem ok_InvalidName____init__ (S : Kq fas fns cls c mg) : Xq P w c mg base d_InvalidName____init__ 1 ["self", "given"] veT "ValueError.__new__" 1 ["code", "given"] (mk1 "InvalidName" "given") := by
  have hb := exBase_ok (S.ex 90)
  refine xq_ok S 3 rfl rfl sc_InvalidName____init__ rfl _ (fun f cdv A outer s H E => ?_) (fun vs H Q E h => init_1 (z := V.str "InvalidName") (N := N_InvalidName____init__) h)
  exact (pss_cons (ps_expr (pe_binit exb_ve rfl (S.glo 83) hb.1 hb.2.1 hb.2.2 (by decide +kernel) (pa_cons (pv 0) (pa_cons pe_str pa_nil)))) (pss_cons (ps_es exb_ve (pv 0) pe_str) (pss_one (ps_es exb_ve (pv 0) (pv 1)))))
theorem ok_InvalidNumber____init__ (S : Kq fas fns cls c mg) : Xq P w c mg base d_InvalidNumber____init__ 1 ["self", "given"] veT "ValueError.__new__" 1 ["code", "given"] (mk1 "InvalidNumber" "given") := by
  have hb := exBase_ok (S.ex 90)
  refine xq_ok S 4 rfl rfl sc_InvalidNumber____init__ rfl _ (fun f cdv A outer s H E => ?_) (fun vs H Q E h => init_1 (z := V.str "InvalidNumber") (N := N_InvalidNumber____init__) h)
  exact (pss_cons (ps_expr (pe_binit exb_ve rfl (S.glo 83) hb.1 hb.2.1 hb.2.2 (by decide +kernel) (pa_cons (pv 0) (pa_cons pe_str pa_nil)))) (pss_cons (ps_es exb_ve (pv 0) pe_str) (pss_one (ps_es exb_ve (pv 0) (pv 1)))))
theorem ok_InvalidBlocks____init__ (S : Kq fas fns cls c mg) : Xq P w c mg base d_InvalidBlocks____init__ 1 ["self", "given"] veT "ValueError.__new__" 1 ["code", "given"] (mk1 "InvalidBlocks" "given") := by
  have hb := exBase_ok (S.ex 90)
  refine xq_ok S 5 rfl rfl sc_InvalidBlocks____init__ rfl _ (fun f cdv A outer s H E => ?_) (fun vs H Q E h => init_1 (z := V.str "InvalidBlocks") (N := N_InvalidBlocks____init__) h)
  exact (pss_cons (ps_expr (pe_binit exb_ve rfl (S.glo 83) hb.1 hb.2.1 hb.2.2 (by decide +kernel) (pa_cons (pv 0) (pa_cons pe_str pa_nil)))) (pss_cons (ps_es exb_ve (pv 0) pe_str) (pss_one (ps_es exb_ve (pv 0) (pv 1)))))
theorem ok_InvalidEvent____init__ (S : Kq fas fns cls c mg) : Xq P w c mg base d_InvalidEvent____init__ 1 ["self", "given"] veT "ValueError.__new__" 1 ["code", "given"] (mk1 "InvalidEvent" "given") := by
  have hb := exBase_ok (S.ex 90)
  refine xq_ok S 6 rfl rfl sc_InvalidEvent____init__ rfl _ (fun f cdv A outer s H E => ?_) (fun vs H Q E h => init_1 (z := V.str "InvalidEvent") (N := N_InvalidEvent____init__) h)
  exact (pss_cons (ps_expr (pe_binit exb_ve rfl (S.glo 83) hb.1 hb.2.1 hb.2.2 (by decide +kernel) (pa_cons (pv 0) (pa_cons pe_str pa_nil)))) (pss_cons (ps_es exb_ve (pv 0) pe_str) (pss_one (ps_es exb_ve (pv 0) (pv 1)))))
theorem ok_InvalidWeight____init__ (S : Kq fas fns cls c mg) : Xq P w c mg base d_InvalidWeight____init__ 1 ["self", "given"] veT "ValueError.__new__" 1 ["code", "given"] (mk1 "InvalidWeight" "given") := by
  have hb := exBase_ok (S.ex 90)
  refine xq_ok S 7 rfl rfl sc_InvalidWeight____init__ rfl _ (fun f cdv A outer s H E => ?_) (fun vs H Q E h => init_1 (z := V.str "InvalidWeight") (N := N_InvalidWeight____init__) h)
  exact (pss_cons (ps_expr (pe_binit exb_ve rfl (S.glo 83) hb.1 hb.2.1 hb.2.2 (by decide +kernel) (pa_cons (pv 0) (pa_cons pe_str pa_nil)))) (pss_cons (ps_es exb_ve (pv 0) pe_str) (pss_one (ps_es exb_ve (pv 0) (pv 1)))))
theorem ok_InvalidLimit____init__ (S : Kq fas fns cls c mg) : Xq P w c mg base d_InvalidLimit____init__ 1 ["self", "given"] veT "ValueError.__new__" 1 ["code", "given"] (mk1 "InvalidLimit" "given") := by
  have hb := exBase_ok (S.ex 90)
  refine xq_ok S 8 rfl rfl sc_InvalidLimit____init__ rfl _ (fun f cdv A outer s H E => ?_) (fun vs H Q E h => init_1 (z := V.str "InvalidLimit") (N := N_InvalidLimit____init__) h)
  exact (pss_cons (ps_expr (pe_binit exb_ve rfl (S.glo 83) hb.1 hb.2.1 hb.2.2 (by decide +kernel) (pa_cons (pv 0) (pa_cons pe_str pa_nil)))) (pss_cons (ps_es exb_ve (pv 0) pe_str) (pss_one (ps_es exb_ve (pv 0) (pv 1)))))
theorem ok_InvalidText____init__ (S : Kq fas fns cls c mg) : Xq P w c mg base d_InvalidText____init__ 1 ["self", "at"] veT "ValueError.__new__" 1 ["code", "at"] (mk1 "InvalidText" "at") := by
  have hb := exBase_ok (S.ex 90)
  refine xq_ok S 9 rfl rfl sc_InvalidText____init__ rfl _ (fun f cdv A outer s H E => ?_) (fun vs H Q E h => init_1 (z := V.str "InvalidText") (N := N_InvalidText____init__) h)
  exact (pss_cons (ps_expr (pe_binit exb_ve rfl (S.glo 83) hb.1 hb.2.1 hb.2.2 (by decide +kernel) (pa_cons (pv 0) (pa_cons pe_str pa_nil)))) (pss_cons (ps_es exb_ve (pv 0) pe_str) (pss_one (ps_es exb_ve (pv 0) (pv 1)))))
theorem ok_InvalidStep____init__ (S : Kq fas fns cls c mg) : Xq P w c mg base d_InvalidStep____init__ 1 ["self", "at"] veT "ValueError.__new__" 1 ["code", "at"] (mk1 "InvalidStep" "at") := by
  have hb := exBase_ok (S.ex 90)
  refine xq_ok S 10 rfl rfl sc_InvalidStep____init__ rfl _ (fun f cdv A outer s H E => ?_) (fun vs H Q E h => init_1 (z := V.str "InvalidStep") (N := N_InvalidStep____init__) h)
  exact (pss_cons (ps_expr (pe_binit exb_ve rfl (S.glo 83) hb.1 hb.2.1 hb.2.2 (by decide +kernel) (pa_cons (pv 0) (pa_cons pe_str pa_nil)))) (pss_cons (ps_es exb_ve (pv 0) pe_str) (pss_one (ps_es exb_ve (pv 0) (pv 1)))))
theorem ok_InvalidAction____init__ (S : Kq fas fns cls c mg) : Xq P w c mg base d_InvalidAction____init__ 1 ["self", "at"] veT "ValueError.__new__" 1 ["code", "at"] (mk1 "InvalidAction" "at") := by
  have hb := exBase_ok (S.ex 90)
  refine xq_ok S 11 rfl rfl sc_InvalidAction____init__ rfl _ (fun f cdv A outer s H E => ?_) (fun vs H Q E h => init_1 (z := V.str "InvalidAction") (N := N_InvalidAction____init__) h)
  exact (pss_cons (ps_expr (pe_binit exb_ve rfl (S.glo 83) hb.1 hb.2.1 hb.2.2 (by decide +kernel) (pa_cons (pv 0) (pa_cons pe_str pa_nil)))) (pss_cons (ps_es exb_ve (pv 0) pe_str) (pss_one (ps_es exb_ve (pv 0) (pv 1)))))
theorem ok_InvalidImage____init__ (S : Kq fas fns cls c mg) : Xq P w c mg base d_InvalidImage____init__ 1 ["self", "at"] veT "ValueError.__new__" 1 ["code", "at"] (mk1 "InvalidImage" "at") := by
  have hb := exBase_ok (S.ex 90)
  refine xq_ok S 12 rfl rfl sc_InvalidImage____init__ rfl _ (fun f cdv A outer s H E => ?_) (fun vs H Q E h => init_1 (z := V.str "InvalidImage") (N := N_InvalidImage____init__) h)
  exact (pss_cons (ps_expr (pe_binit exb_ve rfl (S.glo 83) hb.1 hb.2.1 hb.2.2 (by decide +kernel) (pa_cons (pv 0) (pa_cons pe_str pa_nil)))) (pss_cons (ps_es exb_ve (pv 0) pe_str) (pss_one (ps_es exb_ve (pv 0) (pv 1)))))
theorem ok_InvalidChange____init__ (S : Kq fas fns cls c mg) : Xq P w c mg base d_InvalidChange____init__ 1 ["self", "at"] veT "ValueError.__new__" 1 ["code", "at"] (mk1 "InvalidChange" "at") := by
  have hb := exBase_ok (S.ex 90)
  refine xq_ok S 13 rfl rfl sc_InvalidChange____init__ rfl _ (fun f cdv A outer s H E => ?_) (fun vs H Q E h => init_1 (z := V.str "InvalidChange") (N := N_InvalidChange____init__) h)
  exact (pss_cons (ps_expr (pe_binit exb_ve rfl (S.glo 83) hb.1 hb.2.1 hb.2.2 (by decide +kernel) (pa_cons (pv 0) (pa_cons pe_str pa_nil)))) (pss_cons (ps_es exb_ve (pv 0) pe_str) (pss_one (ps_es exb_ve (pv 0) (pv 1)))))
theorem ok_InvalidOffer____init__ (S : Kq fas fns cls c mg) : Xq P w c mg base d_InvalidOffer____init__ 1 ["self", "at"] veT "ValueError.__new__" 1 ["code", "at"] (mk1 "InvalidOffer" "at") := by
  have hb := exBase_ok (S.ex 90)
  refine xq_ok S 14 rfl rfl sc_InvalidOffer____init__ rfl _ (fun f cdv A outer s H E => ?_) (fun vs H Q E h => init_1 (z := V.str "InvalidOffer") (N := N_InvalidOffer____init__) h)
  exact (pss_cons (ps_expr (pe_binit exb_ve rfl (S.glo 83) hb.1 hb.2.1 hb.2.2 (by decide +kernel) (pa_cons (pv 0) (pa_cons pe_str pa_nil)))) (pss_cons (ps_es exb_ve (pv 0) pe_str) (pss_one (ps_es exb_ve (pv 0) (pv 1)))))
theorem ok_InvalidCommand____init__ (S : Kq fas fns cls c mg) : Xq P w c mg base d_InvalidCommand____init__ 1 ["self", "at"] veT "ValueError.__new__" 1 ["code", "at"] (mk1 "InvalidCommand" "at") := by
  have hb := exBase_ok (S.ex 90)
  refine xq_ok S 15 rfl rfl sc_InvalidCommand____init__ rfl _ (fun f cdv A outer s H E => ?_) (fun vs H Q E h => init_1 (z := V.str "InvalidCommand") (N := N_InvalidCommand____init__) h)
  exact (pss_cons (ps_expr (pe_binit exb_ve rfl (S.glo 83) hb.1 hb.2.1 hb.2.2 (by decide +kernel) (pa_cons (pv 0) (pa_cons pe_str pa_nil)))) (pss_cons (ps_es exb_ve (pv 0) pe_str) (pss_one (ps_es exb_ve (pv 0) (pv 1)))))
theorem ok_NotNow____init__ (S : Kq fas fns cls c mg) : Xq P w c mg base d_NotNow____init__ 1 ["self", "at"] veT "ValueError.__new__" 1 ["code", "at"] (mk1 "NotNow" "at") := by
  have hb := exBase_ok (S.ex 90)
  refine xq_ok S 16 rfl rfl sc_NotNow____init__ rfl _ (fun f cdv A outer s H E => ?_) (fun vs H Q E h => init_1 (z := V.str "NotNow") (N := N_NotNow____init__) h)
  exact (pss_cons (ps_expr (pe_binit exb_ve rfl (S.glo 83) hb.1 hb.2.1 hb.2.2 (by decide +kernel) (pa_cons (pv 0) (pa_cons pe_str pa_nil)))) (pss_cons (ps_es exb_ve (pv 0) pe_str) (pss_one (ps_es exb_ve (pv 0) (pv 1)))))
theorem ok_InvalidMerge____init__ (S : Kq fas fns cls c mg) : Xq P w c mg base d_InvalidMerge____init__ 1 ["self", "name"] veT "ValueError.__new__" 1 ["code", "name"] (mk1 "InvalidMerge" "name") := by
  have hb := exBase_ok (S.ex 90)
  refine xq_ok S 17 rfl rfl sc_InvalidMerge____init__ rfl _ (fun f cdv A outer s H E => ?_) (fun vs H Q E h => init_1 (z := V.str "InvalidMerge") (N := N_InvalidMerge____init__) h)
  exact (pss_cons (ps_expr (pe_binit exb_ve rfl (S.glo 83) hb.1 hb.2.1 hb.2.2 (by decide +kernel) (pa_cons (pv 0) (pa_cons pe_str pa_nil)))) (pss_cons (ps_es exb_ve (pv 0) pe_str) (pss_one (ps_es exb_ve (pv 0) (pv 1)))))
theorem ok_DuplicateName____init__ (S : Kq fas fns cls c mg) : Xq P w c mg base d_DuplicateName____init__ 1 ["self", "name"] veT "ValueError.__new__" 1 ["code", "name"] (mk1 "DuplicateName" "name") := by
  have hb := exBase_ok (S.ex 90)
  refine xq_ok S 18 rfl rfl sc_DuplicateName____init__ rfl _ (fun f cdv A outer s H E => ?_) (fun vs H Q E h => init_1 (z := V.str "DuplicateName") (N := N_DuplicateName____init__) h)
  exact (pss_cons (ps_expr (pe_binit exb_ve rfl (S.glo 83) hb.1 hb.2.1 hb.2.2 (by decide +kernel) (pa_cons (pv 0) (pa_cons pe_str pa_nil)))) (pss_cons (ps_es exb_ve (pv 0) pe_str) (pss_one (ps_es exb_ve (pv 0) (pv 1)))))
theorem ok_InvalidWish____init__ (S : Kq fas fns cls c mg) : Xq P w c mg base d_InvalidWish____init__ 1 ["self"] veT "ValueError.__new__" 0 ["code"] (mk0 "InvalidWish") := by
  have hb := exBase_ok (S.ex 90)
  refine xq_ok S 19 rfl rfl sc_InvalidWish____init__ rfl _ (fun f cdv A outer s H E => ?_) (fun vs H Q E h => init_0 (z := V.str "InvalidWish") (N := N_InvalidWish____init__) h)
  exact (pss_cons (ps_expr (pe_binit exb_ve rfl (S.glo 83) hb.1 hb.2.1 hb.2.2 (by decide +kernel) (pa_cons (pv 0) (pa_cons pe_str pa_nil)))) (pss_one (ps_es exb_ve (pv 0) pe_str)))
theorem ok_NotComparable____init__ (S : Kq fas fns cls c mg) : Xq P w c mg base d_NotComparable____init__ 1 ["self"] veT "ValueError.__new__" 0 ["code"] (mk0 "NotComparable") := by
  have hb := exBase_ok (S.ex 90)
  refine xq_ok S 20 rfl rfl sc_NotComparable____init__ rfl _ (fun f cdv A outer s H E => ?_) (fun vs H Q E h => init_0 (z := V.str "NotComparable") (N := N_NotComparable____init__) h)
  exact (pss_cons (ps_expr (pe_binit exb_ve rfl (S.glo 83) hb.1 hb.2.1 hb.2.2 (by decide +kernel) (pa_cons (pv 0) (pa_cons pe_str pa_nil)))) (pss_one (ps_es exb_ve (pv 0) pe_str)))
theorem ok__law_made_errors (S : Kq fas fns cls c mg) (A : CW cls lams c) (X_InvalidName____init__ : Xq P w c mg base d_InvalidName____init__ 1 ["self", "given"] veT "ValueError.__new__" 1 ["code", "given"] (mk1 "InvalidName" "given")) (X_InvalidNumber____init__ : Xq P w c mg base d_InvalidNumber____init__ 1 ["self", "given"] veT "ValueError.__new__" 1 ["code", "given"] (mk1 "InvalidNumber" "given")) (X_InvalidBlocks____init__ : Xq P w c mg base d_InvalidBlocks____init__ 1 ["self", "given"] veT "ValueError.__new__" 1 ["code", "given"] (mk1 "InvalidBlocks" "given")) (X_InvalidEvent____init__ : Xq P w c mg base d_InvalidEvent____init__ 1 ["self", "given"] veT "ValueError.__new__" 1 ["code", "given"] (mk1 "InvalidEvent" "given")) (X_InvalidWeight____init__ : Xq P w c mg base d_InvalidWeight____init__ 1 ["self", "given"] veT "ValueError.__new__" 1 ["code", "given"] (mk1 "InvalidWeight" "given")) (X_InvalidLimit____init__ : Xq P w c mg base d_InvalidLimit____init__ 1 ["self", "given"] veT "ValueError.__new__" 1 ["code", "given"] (mk1 "InvalidLimit" "given")) (X_InvalidText____init__ : Xq P w c mg base d_InvalidText____init__ 1 ["self", "at"] veT "ValueError.__new__" 1 ["code", "at"] (mk1 "InvalidText" "at")) (X_InvalidStep____init__ : Xq P w c mg base d_InvalidStep____init__ 1 ["self", "at"] veT "ValueError.__new__" 1 ["code", "at"] (mk1 "InvalidStep" "at")) (X_InvalidAction____init__ : Xq P w c mg base d_InvalidAction____init__ 1 ["self", "at"] veT "ValueError.__new__" 1 ["code", "at"] (mk1 "InvalidAction" "at")) (X_InvalidImage____init__ : Xq P w c mg base d_InvalidImage____init__ 1 ["self", "at"] veT "ValueError.__new__" 1 ["code", "at"] (mk1 "InvalidImage" "at")) (X_InvalidChange____init__ : Xq P w c mg base d_InvalidChange____init__ 1 ["self", "at"] veT "ValueError.__new__" 1 ["code", "at"] (mk1 "InvalidChange" "at")) (X_InvalidOffer____init__ : Xq P w c mg base d_InvalidOffer____init__ 1 ["self", "at"] veT "ValueError.__new__" 1 ["code", "at"] (mk1 "InvalidOffer" "at")) (X_InvalidCommand____init__ : Xq P w c mg base d_InvalidCommand____init__ 1 ["self", "at"] veT "ValueError.__new__" 1 ["code", "at"] (mk1 "InvalidCommand" "at")) (X_NotNow____init__ : Xq P w c mg base d_NotNow____init__ 1 ["self", "at"] veT "ValueError.__new__" 1 ["code", "at"] (mk1 "NotNow" "at")) (X_InvalidMerge____init__ : Xq P w c mg base d_InvalidMerge____init__ 1 ["self", "name"] veT "ValueError.__new__" 1 ["code", "name"] (mk1 "InvalidMerge" "name")) (X_DuplicateName____init__ : Xq P w c mg base d_DuplicateName____init__ 1 ["self", "name"] veT "ValueError.__new__" 1 ["code", "name"] (mk1 "DuplicateName" "name")) (X_InvalidWish____init__ : Xq P w c mg base d_InvalidWish____init__ 1 ["self"] veT "ValueError.__new__" 0 ["code"] (mk0 "InvalidWish")) (X_NotComparable____init__ : Xq P w c mg base d_NotComparable____init__ 1 ["self"] veT "ValueError.__new__" 0 ["code"] (mk0 "NotComparable")) : Dq P w c mg base d__law_made_errors 3 ["_law_a"] f__law_made_errors := by
  refine dq_ok S 21 rfl rfl sc__law_made_errors (fun f cdv A0 outer s H E hr => ?_)
  exact (ss_cons (st_set (i := 1) sc__law_made_errors.nd rfl (Or.inl rfl) (s_lst (s_cons (s_tup (s_cons (s_ex md_body.k exb_ve X_InvalidName____init__ (by decide) rfl (hr.mono (by decide)) (S.ex 5) (S.ex 6) (S.glo 7) (S.at_ "InvalidName" (by decide)) mkr1 rfl (fun _ _ _ _ _ _ _ us hl => match us, hl with | [_, _], _ => rfl) (s_cons (s_var (pv 0)) s_nil)) (s_cons s_str s_nil))) (s_cons (s_tup (s_cons (s_ex md_body.k exb_ve X_InvalidNumber____init__ (by decide) rfl (hr.mono (by decide)) (S.ex 8) (S.ex 9) (S.glo 10) (S.at_ "InvalidNumber" (by decide)) mkr1 rfl (fun _ _ _ _ _ _ _ us hl => match us, hl with | [_, _], _ => rfl) (s_cons (s_var (pv 0)) s_nil)) (s_cons s_str s_nil))) (s_cons (s_tup (s_cons (s_ex md_body.k exb_ve X_InvalidBlocks____init__ (by decide) rfl (hr.mono (by decide)) (S.ex 11) (S.ex 12) (S.glo 13) (S.at_ "InvalidBlocks" (by decide)) mkr1 rfl (fun _ _ _ _ _ _ _ us hl => match us, hl with | [_, _], _ => rfl) (s_cons (s_var (pv 0)) s_nil)) (s_cons s_str s_nil))) (s_cons (s_tup (s_cons (s_ex md_body.k exb_ve X_InvalidEvent____init__ (by decide) rfl (hr.mono (by decide)) (S.ex 14) (S.ex 15) (S.glo 16) (S.at_ "InvalidEvent" (by decide)) mkr1 rfl (fun _ _ _ _ _ _ _ us hl => match us, hl with | [_, _], _ => rfl) (s_cons (s_var (pv 0)) s_nil)) (s_cons s_str s_nil))) (s_cons (s_tup (s_cons (s_ex md_body.k exb_ve X_InvalidWeight____init__ (by decide) rfl (hr.mono (by decide)) (S.ex 17) (S.ex 18) (S.glo 19) (S.at_ "InvalidWeight" (by decide)) mkr1 rfl (fun _ _ _ _ _ _ _ us hl => match us, hl with | [_, _], _ => rfl) (s_cons (s_var (pv 0)) s_nil)) (s_cons s_str s_nil))) (s_cons (s_tup (s_cons (s_ex md_body.k exb_ve X_InvalidLimit____init__ (by decide) rfl (hr.mono (by decide)) (S.ex 20) (S.ex 21) (S.glo 22) (S.at_ "InvalidLimit" (by decide)) mkr1 rfl (fun _ _ _ _ _ _ _ us hl => match us, hl with | [_, _], _ => rfl) (s_cons (s_var (pv 0)) s_nil)) (s_cons s_str s_nil))) s_nil))))))))
    (ss_cons (st_set (i := 2) sc__law_made_errors.nd rfl (Or.inl rfl) (s_lst (s_cons (s_tup (s_cons (s_ex md_body.k exb_ve X_InvalidText____init__ (by decide) rfl (hr.mono (by decide)) (S.ex 23) (S.ex 24) (S.glo 25) (S.at_ "InvalidText" (by decide)) mkr1 rfl (fun _ _ _ _ _ _ _ us hl => match us, hl with | [_, _], _ => rfl) (s_cons (s_var (pv 0)) s_nil)) (s_cons s_str s_nil))) (s_cons (s_tup (s_cons (s_ex md_body.k exb_ve X_InvalidStep____init__ (by decide) rfl (hr.mono (by decide)) (S.ex 26) (S.ex 27) (S.glo 28) (S.at_ "InvalidStep" (by decide)) mkr1 rfl (fun _ _ _ _ _ _ _ us hl => match us, hl with | [_, _], _ => rfl) (s_cons (s_var (pv 0)) s_nil)) (s_cons s_str s_nil))) (s_cons (s_tup (s_cons (s_ex md_body.k exb_ve X_InvalidAction____init__ (by decide) rfl (hr.mono (by decide)) (S.ex 29) (S.ex 30) (S.glo 31) (S.at_ "InvalidAction" (by decide)) mkr1 rfl (fun _ _ _ _ _ _ _ us hl => match us, hl with | [_, _], _ => rfl) (s_cons (s_var (pv 0)) s_nil)) (s_cons s_str s_nil))) (s_cons (s_tup (s_cons (s_ex md_body.k exb_ve X_InvalidImage____init__ (by decide) rfl (hr.mono (by decide)) (S.ex 32) (S.ex 33) (S.glo 34) (S.at_ "InvalidImage" (by decide)) mkr1 rfl (fun _ _ _ _ _ _ _ us hl => match us, hl with | [_, _], _ => rfl) (s_cons (s_var (pv 0)) s_nil)) (s_cons s_str s_nil))) (s_cons (s_tup (s_cons (s_ex md_body.k exb_ve X_InvalidChange____init__ (by decide) rfl (hr.mono (by decide)) (S.ex 35) (S.ex 36) (S.glo 37) (S.at_ "InvalidChange" (by decide)) mkr1 rfl (fun _ _ _ _ _ _ _ us hl => match us, hl with | [_, _], _ => rfl) (s_cons (s_var (pv 0)) s_nil)) (s_cons s_str s_nil))) (s_cons (s_tup (s_cons (s_ex md_body.k exb_ve X_InvalidOffer____init__ (by decide) rfl (hr.mono (by decide)) (S.ex 38) (S.ex 39) (S.glo 40) (S.at_ "InvalidOffer" (by decide)) mkr1 rfl (fun _ _ _ _ _ _ _ us hl => match us, hl with | [_, _], _ => rfl) (s_cons (s_var (pv 0)) s_nil)) (s_cons s_str s_nil))) (s_cons (s_tup (s_cons (s_ex md_body.k exb_ve X_InvalidCommand____init__ (by decide) rfl (hr.mono (by decide)) (S.ex 41) (S.ex 42) (S.glo 43) (S.at_ "InvalidCommand" (by decide)) mkr1 rfl (fun _ _ _ _ _ _ _ us hl => match us, hl with | [_, _], _ => rfl) (s_cons (s_var (pv 0)) s_nil)) (s_cons s_str s_nil))) (s_cons (s_tup (s_cons (s_ex md_body.k exb_ve X_NotNow____init__ (by decide) rfl (hr.mono (by decide)) (S.ex 44) (S.ex 45) (S.glo 46) (S.at_ "NotNow" (by decide)) mkr1 rfl (fun _ _ _ _ _ _ _ us hl => match us, hl with | [_, _], _ => rfl) (s_cons (s_var (pv 0)) s_nil)) (s_cons s_str s_nil))) s_nil))))))))))
    (ss_cons (st_set (i := 3) sc__law_made_errors.nd rfl (Or.inl rfl) (s_lst (s_cons (s_tup (s_cons (s_ex md_body.k exb_ve X_InvalidMerge____init__ (by decide) rfl (hr.mono (by decide)) (S.ex 47) (S.ex 48) (S.glo 49) (S.at_ "InvalidMerge" (by decide)) mkr1 rfl (fun _ _ _ _ _ _ _ us hl => match us, hl with | [_, _], _ => rfl) (s_cons (s_var (pv 0)) s_nil)) (s_cons s_str s_nil))) (s_cons (s_tup (s_cons (s_ex md_body.k exb_ve X_DuplicateName____init__ (by decide) rfl (hr.mono (by decide)) (S.ex 50) (S.ex 51) (S.glo 52) (S.at_ "DuplicateName" (by decide)) mkr1 rfl (fun _ _ _ _ _ _ _ us hl => match us, hl with | [_, _], _ => rfl) (s_cons (s_var (pv 0)) s_nil)) (s_cons s_str s_nil))) s_nil))))
    (ss_cons (st_set (i := 4) sc__law_made_errors.nd rfl (Or.inl rfl) (s_lst (s_cons (s_tup (s_cons (s_ex0 md_body.k exb_ve X_InvalidWish____init__ rfl (hr.mono (by decide)) (S.ex 53) (S.ex 54) (S.glo 55) (S.at_ "InvalidWish" (by decide)) mkr0 rfl (fun _ _ _ _ _ _ _ us hl => match us, hl with | [_], _ => rfl)) (s_cons s_str s_nil))) (s_cons (s_tup (s_cons (s_ex0 md_body.k exb_ve X_NotComparable____init__ rfl (hr.mono (by decide)) (S.ex 56) (S.ex 57) (S.glo 58) (S.at_ "NotComparable" (by decide)) mkr0 rfl (fun _ _ _ _ _ _ _ us hl => match us, hl with | [_], _ => rfl)) (s_cons s_str s_nil))) s_nil))))
    (ss_one (st_ret (s_tup (s_cons (s_var (pv 1)) (s_cons (s_var (pv 2)) (s_cons (s_var (pv 3)) (s_cons (s_var (pv 4)) s_nil)))))))))))
theorem ok1__law_same {k : Nat} {g : Fn} (S : Kq fas fns cls c mg) (A : CW cls lams c) (T : IsOk c tb) (Dg : Dq P w c mg base d__law_same k ["_law_found", "_law_due"] g) : Dq P w c mg base d__law_same (k + 1) ["_law_found", "_law_due"] (fn 4 (r__law_same g)) := by
  refine dq_ok S 22 rfl rfl sc__law_same (fun f cdv A0 outer s H E hr => ?_)
  exact (ss_cons (st_if (t_cmp op_isN o_isN (s_var (pv 1)) s_non) (ss_one (st_ret (s_cmp op_isN o_isN (s_var (pv 0)) s_non))) ss_nil)
    (ss_cons (st_if (w_or (t_val (s_fun (c_isi T) (pe_callB call_isiA (by rfl) (S.free 61) bt_isinstance (s_cons (s_var (pv 1)) (s_cons (s_ty (S.free 60) bt_bool) s_nil))))) (w_or1 (t_val (s_fun (c_isi T) (pe_callB call_isiA (by rfl) (S.free 61) bt_isinstance (s_cons (s_var (pv 0)) (s_cons (s_ty (S.free 60) bt_bool) s_nil))))))).pt (ss_one (st_ret (s_and (s_fun (c_isi T) (pe_callB call_isiA (by rfl) (S.free 61) bt_isinstance (s_cons (s_var (pv 1)) (s_cons (s_ty (S.free 60) bt_bool) s_nil)))) (s_and (s_fun (c_isi T) (pe_callB call_isiA (by rfl) (S.free 61) bt_isinstance (s_cons (s_var (pv 0)) (s_cons (s_ty (S.free 60) bt_bool) s_nil)))) (s_one (s_cmp (op_eqD hr.units) o_eq (s_var (pv 0)) (s_var (pv 1)))))))) ss_nil)
    (ss_cons (st_if (t_val (s_fun (c_isi T) (pe_callB call_isiA (by rfl) (S.free 61) bt_isinstance (s_cons (s_var (pv 1)) (s_cons (s_tup (s_cons (s_ty (S.free 0) bt_int) (s_cons (s_ty (S.free 62) bt_str) s_nil))) s_nil))))) (ss_one (st_ret (s_and (s_fun (c_isi T) (pe_callB call_isiA (by rfl) (S.free 61) bt_isinstance (s_cons (s_var (pv 0)) (s_cons (s_tup (s_cons (s_ty (S.free 0) bt_int) (s_cons (s_ty (S.free 62) bt_str) s_nil))) s_nil)))) (s_and (s_cmp (op_eqD hr.units) o_eq (s_fun (c_isi T) (pe_callB call_isiA (by rfl) (S.free 61) bt_isinstance (s_cons (s_var (pv 0)) (s_cons (s_ty (S.free 0) bt_int) s_nil)))) (s_fun (c_isi T) (pe_callB call_isiA (by rfl) (S.free 61) bt_isinstance (s_cons (s_var (pv 1)) (s_cons (s_ty (S.free 0) bt_int) s_nil))))) (s_one (s_cmp (op_eqD hr.units) o_eq (s_var (pv 0)) (s_var (pv 1)))))))) ss_nil)
    (ss_cons (st_if (w_or (t_cmp (op_neD hr.units) o_ne (s_fun (c_isi T) (pe_callB call_isiA (by rfl) (S.free 61) bt_isinstance (s_cons (s_var (pv 1)) (s_cons (s_ty (S.free 63) bt_list) s_nil)))) (s_fun (c_isi T) (pe_callB call_isiA (by rfl) (S.free 61) bt_isinstance (s_cons (s_var (pv 0)) (s_cons (s_ty (S.free 63) bt_list) s_nil))))) (w_or1 (t_cmp (op_neD hr.units) o_ne (s_fun (c_isi T) (pe_callB call_isiA (by rfl) (S.free 61) bt_isinstance (s_cons (s_var (pv 1)) (s_cons (s_ty (S.free 64) bt_tuple) s_nil)))) (s_fun (c_isi T) (pe_callB call_isiA (by rfl) (S.free 61) bt_isinstance (s_cons (s_var (pv 0)) (s_cons (s_ty (S.free 64) bt_tuple) s_nil))))))).pt (ss_one (st_ret s_bl)) ss_nil)
    (ss_one (st_ret (s_and (s_cmp (op_eqD hr.units) o_eq (s_fun c_len (pe_callB call_len (by rfl) (S.free 1) bt_len (s_cons (s_var (pv 0)) s_nil))) (s_fun c_len (pe_callB call_len (by rfl) (S.free 1) bt_len (s_cons (s_var (pv 1)) s_nil)))) (s_one (s_fun c_all (pe_callB (cr_all rfl) (by rfl) (S.free 67) bt_all (s_cons (s_lc (own := [("_law_one", 2), ("_law_two", 3)]) (pe_lc (own := [("_law_one", 2), ("_law_two", 3)]) rfl sc__law_same.nd (i_zipA md_body.k (RZ.pi_zipA rfl (S.free 65) (s_cons (s_var (pv 0)) (s_cons (s_var (pv 1)) s_nil)))) (blkOk_by (N := N__law_same) (sc := defScope s__law_same) (by decide +kernel)) (fun _ _ _ _ _ => (pg_tup md_body.blk.calm (pgs_cons (pg_name (i := 2) sc__law_same.nd rfl (Or.inl rfl)) (pgs_cons (pg_name (i := 3) sc__law_same.nd rfl (Or.inl rfl)) pgs_nil)))) (fun _ _ _ _ _ => ts_nil) (fun _ _ _ _ _ => (s_d md_body.blk Dg hr (S.glo 66) rfl (fun _ _ _ _ _ _ _ us hl => match us, hl with | [_, _], _ => rfl) (s_cons (s_var (pv 2)) (s_cons (s_var (pv 3)) s_nil))))) (tg_tup (is := [2, 3]) rfl rfl)) s_nil)))))))))))
theorem ok__law_same (S : Kq fas fns cls c mg) (A : CW cls lams c) (T : IsOk c tb) : ∀ n, Dq P w c mg base d__law_same (1 + n) ["_law_found", "_law_due"] (f__law_same n)
  | 0 => Dq.never S 22
  | n + 1 => ok1__law_same S A T (ok__law_same S A T n)
theorem ok_TooMany____init__ (S : Kq fas fns cls c mg) : Xq P w c mg base d_TooMany____init__ 1 ["self", "subject", "most"] veT "ValueError.__new__" 2 ["code", "subject", "most"] (mk2 "TooMany" "subject" "most") := by
  have hb := exBase_ok (S.ex 90)
  refine xq_ok S 23 rfl rfl sc_TooMany____init__ rfl _ (fun f cdv A outer s H E => ?_) (fun vs H Q E h => init_2 (z := V.str "TooMany") (N := N_TooMany____init__) h)
  exact (pss_cons (ps_expr (pe_binit exb_ve rfl (S.glo 83) hb.1 hb.2.1 hb.2.2 (by decide +kernel) (pa_cons (pv 0) (pa_cons pe_str pa_nil)))) (pss_cons (ps_es exb_ve (pv 0) pe_str) (pss_cons (ps_es exb_ve (pv 0) (pv 1)) (pss_one (ps_es exb_ve (pv 0) (pv 2))))))
theorem ok_Stuck____init__ (S : Kq fas fns cls c mg) : Xq P w c mg base d_Stuck____init__ 1 ["self", "ring"] veT "ValueError.__new__" 1 ["code", "ring"] (mk1 "Stuck" "ring") := by
  have hb := exBase_ok (S.ex 90)
  refine xq_ok S 24 rfl rfl sc_Stuck____init__ rfl _ (fun f cdv A outer s H E => ?_) (fun vs H Q E h => init_1 (z := V.str "Stuck") (N := N_Stuck____init__) h)
  exact (pss_cons (ps_expr (pe_binit exb_ve rfl (S.glo 83) hb.1 hb.2.1 hb.2.2 (by decide +kernel) (pa_cons (pv 0) (pa_cons pe_str pa_nil)))) (pss_cons (ps_es exb_ve (pv 0) pe_str) (pss_one (ps_es exb_ve (pv 0) (pv 1)))))
theorem ok_Full____init__ (S : Kq fas fns cls c mg) : Xq P w c mg base d_Full____init__ 1 ["self", "most"] veT "ValueError.__new__" 1 ["code", "most"] (mk1 "Full" "most") := by
  have hb := exBase_ok (S.ex 90)
  refine xq_ok S 25 rfl rfl sc_Full____init__ rfl _ (fun f cdv A outer s H E => ?_) (fun vs H Q E h => init_1 (z := V.str "Full") (N := N_Full____init__) h)
  exact (pss_cons (ps_expr (pe_binit exb_ve rfl (S.glo 83) hb.1 hb.2.1 hb.2.2 (by decide +kernel) (pa_cons (pv 0) (pa_cons pe_str pa_nil)))) (pss_cons (ps_es exb_ve (pv 0) pe_str) (pss_one (ps_es exb_ve (pv 0) (pv 1)))))
theorem ok_UnknownName____init__ (S : Kq fas fns cls c mg) : Xq P w c mg base d_UnknownName____init__ 1 ["self", "name"] leT "LookupError.__new__" 1 ["code", "name"] (mk1 "UnknownName" "name") := by
  have hb := exBase_ok (S.ex 91)
  refine xq_ok S 26 rfl rfl sc_UnknownName____init__ rfl _ (fun f cdv A outer s H E => ?_) (fun vs H Q E h => init_1 (z := V.str "UnknownName") (N := N_UnknownName____init__) h)
  exact (pss_cons (ps_expr (pe_binit exb_le rfl (S.glo 85) hb.1 hb.2.1 hb.2.2 (by decide +kernel) (pa_cons (pv 0) (pa_cons pe_str pa_nil)))) (pss_cons (ps_es exb_le (pv 0) pe_str) (pss_one (ps_es exb_le (pv 0) (pv 1)))))
theorem ok_NothingLeft____init__ (S : Kq fas fns cls c mg) : Xq P w c mg base d_NothingLeft____init__ 1 ["self"] ieT "IndexError.__new__" 0 ["code"] (mk0 "NothingLeft") := by
  have hb := exTyp_ok (S.ex 92)
  refine xq_ok S 27 rfl rfl sc_NothingLeft____init__ rfl _ (fun f cdv A outer s H E => ?_) (fun vs H Q E h => init_0 (z := V.str "NothingLeft") (N := N_NothingLeft____init__) h)
  exact (pss_cons (ps_expr (pe_tinit exb_ie rfl (S.free 88) (by decide +kernel) (by kernel_rfl) (by decide +kernel) hb (by decide +kernel) (pa_cons (pv 0) (pa_cons pe_str pa_nil)))) (pss_one (ps_es exb_ie (pv 0) pe_str)))
theorem ok__law_bases (S : Kq fas fns cls c mg) (A : CW cls lams c) : Dq P w c mg base d__law_bases 1 ["_law_e"] f__law_bases := by
  refine dq_ok S 28 rfl rfl sc__law_bases (fun f cdv A0 outer s H E hr => ?_)
  exact (ss_one (st_ret (s_lst (s_cons (s_fun (c_isx A.hot (isx_of A.toCA xtb_in (S.ex 84))) (pe_callB call_isX (by rfl) (S.free 61) bt_isinstance (s_cons (s_var (pv 0)) (s_cons (s_cls (n := "QueueError") (S.glo 83) (S.at_ "QueueError" (by decide))) s_nil)))) (s_cons (s_fun (c_isx A.hot (isx_of A.toCA xtb_in (S.ex 84))) (pe_callB call_isX (by rfl) (S.free 61) bt_isinstance (s_cons (s_var (pv 0)) (s_cons (s_cls (n := "Missing") (S.glo 85) (S.at_ "Missing" (by decide))) s_nil)))) (s_cons (s_fun (c_isx A.hot (isx_of A.toCA xtb_in (S.ex 84))) (pe_callB call_isX (by rfl) (S.free 61) bt_isinstance (s_cons (s_var (pv 0)) (s_cons (s_cls (n := "NothingLeft") (S.glo 82) (S.at_ "NothingLeft" (by decide))) s_nil)))) (s_cons (s_fun (c_isx A.hot (isx_of A.toCA xtb_in (S.ex 84))) (pe_callB call_isX (by rfl) (S.free 61) bt_isinstance (s_cons (s_var (pv 0)) (s_cons (s_ty (S.free 86) bt_ValueError) s_nil)))) (s_cons (s_fun (c_isx A.hot (isx_of A.toCA xtb_in (S.ex 84))) (pe_callB call_isX (by rfl) (S.free 61) bt_isinstance (s_cons (s_var (pv 0)) (s_cons (s_ty (S.free 87) bt_LookupError) s_nil)))) (s_cons (s_fun (c_isx A.hot (isx_of A.toCA xtb_in (S.ex 84))) (pe_callB call_isX (by rfl) (S.free 61) bt_isinstance (s_cons (s_var (pv 0)) (s_cons (s_ty (S.free 88) bt_IndexError) s_nil)))) s_nil)))))))))
theorem ok_law (S : Kq fas fns cls c mg) (A : CW cls lams c) (T : IsOk c tb) (X_TooMany____init__ : Xq P w c mg base d_TooMany____init__ 1 ["self", "subject", "most"] veT "ValueError.__new__" 2 ["code", "subject", "most"] (mk2 "TooMany" "subject" "most")) (X_Stuck____init__ : Xq P w c mg base d_Stuck____init__ 1 ["self", "ring"] veT "ValueError.__new__" 1 ["code", "ring"] (mk1 "Stuck" "ring")) (X_Full____init__ : Xq P w c mg base d_Full____init__ 1 ["self", "most"] veT "ValueError.__new__" 1 ["code", "most"] (mk1 "Full" "most")) (X_UnknownName____init__ : Xq P w c mg base d_UnknownName____init__ 1 ["self", "name"] leT "LookupError.__new__" 1 ["code", "name"] (mk1 "UnknownName" "name")) (X_NothingLeft____init__ : Xq P w c mg base d_NothingLeft____init__ 1 ["self"] ieT "IndexError.__new__" 0 ["code"] (mk0 "NothingLeft")) (X_InvalidName____init__ : Xq P w c mg base d_InvalidName____init__ 1 ["self", "given"] veT "ValueError.__new__" 1 ["code", "given"] (mk1 "InvalidName" "given")) (D__law_deal : Dq P w c mg base d__law_deal 1 ["_law_script"] f__law_deal) (D__law_of : Dq P w c mg base d__law_of 2 ["_law_deal_here", "_law_items"] f__law_of) (D__law_pick : Dq P w c mg base d__law_pick 1 ["_law_deal_here", "_law_many"] f__law_pick) (D__law_made_errors : Dq P w c mg base d__law_made_errors 3 ["_law_a"] f__law_made_errors) (D__law_same : Dq P w c mg base d__law_same 5 ["_law_found", "_law_due"] (f__law_same 4)) (D__law_bases : Dq P w c mg base d__law_bases 1 ["_law_e"] f__law_bases) : Dq P w c mg base d_law 6 ["_law_script"] f_law := by
  refine dq_ok S 29 rfl rfl sc_law (fun f cdv A0 outer s H E hr => ?_)
  exact (ss_cons (st_set (i := 1) sc_law.nd rfl (Or.inl rfl) (s_d md_body D__law_deal (hr.mono (by decide)) (S.glo 2) rfl (fun _ _ _ _ _ _ _ us hl => match us, hl with | [_], _ => rfl) (s_cons (s_var (pv 0)) s_nil)))
    (ss_cons (st_set (i := 2) sc_law.nd rfl (Or.inr rfl) (s_d md_body D__law_of (hr.mono (by decide)) (S.glo 4) rfl (fun _ _ _ _ _ _ _ us hl => match us, hl with | [_, _], _ => rfl) (s_cons (s_var (pv 1)) (s_cons (s_lst (s_cons (s_d md_body D__law_pick (hr.mono (by decide)) (S.glo 3) rfl (fun _ _ _ _ _ _ _ us hl => match us, hl with | [_, _], _ => rfl) (s_cons (s_var (pv 1)) (s_cons (s_bin op_pow o_pow s_int s_int) s_nil))) (s_cons (s_bin op_sub o_sub (s_bin op_sub o_sub s_int s_int) (s_d md_body D__law_pick (hr.mono (by decide)) (S.glo 3) rfl (fun _ _ _ _ _ _ _ us hl => match us, hl with | [_, _], _ => rfl) (s_cons (s_var (pv 1)) (s_cons s_int s_nil)))) (s_cons s_str (s_cons s_non (s_cons (s_tup (s_cons s_int (s_cons s_str s_nil))) s_nil)))))) s_nil))))
    (ss_cons (st_asg (pg_tup md_body.calm (pgs_cons (pg_name (i := 6) sc_law.nd rfl (Or.inl rfl)) (pgs_cons (pg_name (i := 7) sc_law.nd rfl (Or.inl rfl)) (pgs_cons (pg_name (i := 8) sc_law.nd rfl (Or.inl rfl)) (pgs_cons (pg_name (i := 9) sc_law.nd rfl (Or.inl rfl)) pgs_nil))))) (tg_tup (is := [6, 7, 8, 9]) rfl rfl) (s_d md_body D__law_made_errors (hr.mono (by decide)) (S.glo 59) rfl (fun _ _ _ _ _ _ _ us hl => match us, hl with | [_], _ => rfl) (s_cons (s_var (pv 2)) s_nil)))
    (ss_cons (st_setLcM (own := [("_law_e", 15), ("_law_code", 16)]) (ps_setLc (i := 3) (own := [("_law_e", 15), ("_law_code", 16)]) rfl sc_law.nd rfl rfl (sw_true rfl rfl rfl (by decide +kernel)) (i_items md_body.k (s_var (pv 6))) (blkOk_by (N := N_law) (sc := defScope s_law) (by decide +kernel)) (fun _ _ _ _ _ => (pg_tup md_body.blk.calm (pgs_cons (pg_name (i := 15) sc_law.nd rfl (Or.inl rfl)) (pgs_cons (pg_name (i := 16) sc_law.nd rfl (Or.inl rfl)) pgs_nil)))) (fun _ _ _ _ _ => ts_nil) (fun _ _ _ _ _ => (s_d md_body.blk D__law_same (hr.mono (by decide)) (S.glo 66) rfl (fun _ _ _ _ _ _ _ us hl => match us, hl with | [_, _], _ => rfl) (s_cons (s_lst (s_cons (s_xf md_body.blk.k (fun q h => by rw [A.hot] at h; cases h) (xf_code A.toCA S) (s_var (pv 15))) (s_cons (s_xf md_body.blk.k (fun q h => by rw [A.hot] at h; cases h) (xf_given A.toCA S) (s_var (pv 15))) s_nil))) (s_cons (s_lst (s_cons (s_var (pv 16)) (s_cons (s_var (pv 2)) s_nil))) s_nil))))) (tg_tup (is := [15, 16]) rfl rfl))
    (ss_cons (st_set (i := 3) sc_law.nd rfl (Or.inl rfl) (s_bin op_addAll o_addM (s_var (pv 3)) (s_lc (own := [("_law_e", 15), ("_law_code", 16)]) (pe_lc (own := [("_law_e", 15), ("_law_code", 16)]) rfl sc_law.nd (i_items md_body.k (s_var (pv 7))) (blkOk_by (N := N_law) (sc := defScope s_law) (by decide +kernel)) (fun _ _ _ _ _ => (pg_tup md_body.blk.calm (pgs_cons (pg_name (i := 15) sc_law.nd rfl (Or.inl rfl)) (pgs_cons (pg_name (i := 16) sc_law.nd rfl (Or.inl rfl)) pgs_nil)))) (fun _ _ _ _ _ => ts_nil) (fun _ _ _ _ _ => (s_d md_body.blk D__law_same (hr.mono (by decide)) (S.glo 66) rfl (fun _ _ _ _ _ _ _ us hl => match us, hl with | [_, _], _ => rfl) (s_cons (s_lst (s_cons (s_xf md_body.blk.k (fun q h => by rw [A.hot] at h; cases h) (xf_code A.toCA S) (s_var (pv 15))) (s_cons (s_xf md_body.blk.k (fun q h => by rw [A.hot] at h; cases h) (xf_at A.toCA S) (s_var (pv 15))) s_nil))) (s_cons (s_lst (s_cons (s_var (pv 16)) (s_cons (s_var (pv 2)) s_nil))) s_nil))))) (tg_tup (is := [15, 16]) rfl rfl))))
    (ss_cons (st_set (i := 3) sc_law.nd rfl (Or.inl rfl) (s_bin op_addAll o_addM (s_var (pv 3)) (s_lc (own := [("_law_e", 15), ("_law_code", 16)]) (pe_lc (own := [("_law_e", 15), ("_law_code", 16)]) rfl sc_law.nd (i_items md_body.k (s_var (pv 8))) (blkOk_by (N := N_law) (sc := defScope s_law) (by decide +kernel)) (fun _ _ _ _ _ => (pg_tup md_body.blk.calm (pgs_cons (pg_name (i := 15) sc_law.nd rfl (Or.inl rfl)) (pgs_cons (pg_name (i := 16) sc_law.nd rfl (Or.inl rfl)) pgs_nil)))) (fun _ _ _ _ _ => ts_nil) (fun _ _ _ _ _ => (s_d md_body.blk D__law_same (hr.mono (by decide)) (S.glo 66) rfl (fun _ _ _ _ _ _ _ us hl => match us, hl with | [_, _], _ => rfl) (s_cons (s_lst (s_cons (s_xf md_body.blk.k (fun q h => by rw [A.hot] at h; cases h) (xf_code A.toCA S) (s_var (pv 15))) (s_cons (s_xf md_body.blk.k (fun q h => by rw [A.hot] at h; cases h) (xf_name A.toCA S) (s_var (pv 15))) s_nil))) (s_cons (s_lst (s_cons (s_var (pv 16)) (s_cons (s_var (pv 2)) s_nil))) s_nil))))) (tg_tup (is := [15, 16]) rfl rfl))))
    (ss_cons (st_set (i := 3) sc_law.nd rfl (Or.inl rfl) (s_bin op_addAll o_addM (s_var (pv 3)) (s_lc (own := [("_law_e", 15), ("_law_code", 16)]) (pe_lc (own := [("_law_e", 15), ("_law_code", 16)]) rfl sc_law.nd (i_items md_body.k (s_var (pv 9))) (blkOk_by (N := N_law) (sc := defScope s_law) (by decide +kernel)) (fun _ _ _ _ _ => (pg_tup md_body.blk.calm (pgs_cons (pg_name (i := 15) sc_law.nd rfl (Or.inl rfl)) (pgs_cons (pg_name (i := 16) sc_law.nd rfl (Or.inl rfl)) pgs_nil)))) (fun _ _ _ _ _ => ts_nil) (fun _ _ _ _ _ => (s_d md_body.blk D__law_same (hr.mono (by decide)) (S.glo 66) rfl (fun _ _ _ _ _ _ _ us hl => match us, hl with | [_, _], _ => rfl) (s_cons (s_xf md_body.blk.k (fun q h => by rw [A.hot] at h; cases h) (xf_code A.toCA S) (s_var (pv 15))) (s_cons (s_var (pv 16)) s_nil))))) (tg_tup (is := [15, 16]) rfl rfl))))
    (ss_cons (st_par3 (i := 10) (j := 11) (l := 12) md_body.calm sc_law.nd rfl rfl rfl (by decide) (by decide) (by decide) rfl rfl rfl (s_cons (s_ex md_body.k exb_ve X_TooMany____init__ (by decide) rfl (hr.mono (by decide)) (S.ex 68) (S.ex 69) (S.glo 70) (S.at_ "TooMany" (by decide)) mkr2 rfl (fun _ _ _ _ _ _ _ us hl => match us, hl with | [_, _, _], _ => rfl) (s_cons s_str (s_cons (s_var (pv 2)) s_nil))) (s_cons (s_ex md_body.k exb_ve X_Stuck____init__ (by decide) rfl (hr.mono (by decide)) (S.ex 71) (S.ex 72) (S.glo 73) (S.at_ "Stuck" (by decide)) mkr1 rfl (fun _ _ _ _ _ _ _ us hl => match us, hl with | [_, _], _ => rfl) (s_cons (s_lst (s_cons (s_var (pv 2)) s_nil)) s_nil)) (s_cons (s_ex md_body.k exb_ve X_Full____init__ (by decide) rfl (hr.mono (by decide)) (S.ex 74) (S.ex 75) (S.glo 76) (S.at_ "Full" (by decide)) mkr1 rfl (fun _ _ _ _ _ _ _ us hl => match us, hl with | [_, _], _ => rfl) (s_cons (s_var (pv 2)) s_nil)) s_nil))))
    (ss_cons (st_parX (i := 13) (j := 14) md_body.calm sc_law.nd rfl rfl (by decide) rfl rfl (s_cons (s_ex md_body.k exb_le X_UnknownName____init__ (by decide) rfl (hr.mono (by decide)) (S.ex 77) (S.ex 78) (S.glo 79) (S.at_ "UnknownName" (by decide)) mkr1 rfl (fun _ _ _ _ _ _ _ us hl => match us, hl with | [_, _], _ => rfl) (s_cons (s_var (pv 2)) s_nil)) (s_cons (s_ex0 md_body.k exb_ie X_NothingLeft____init__ rfl (hr.mono (by decide)) (S.ex 80) (S.ex 81) (S.glo 82) (S.at_ "NothingLeft" (by decide)) mkr0 rfl (fun _ _ _ _ _ _ _ us hl => match us, hl with | [_], _ => rfl)) s_nil)))
    (ss_cons (st_expr (s_mt md_body.k m_append (pe_bm PySem.F.plainAttrs_list PySem.F.slot_list_append PySem.F.type_list_append mt_append (by exact (s_var (pv 3))) (s_cons (s_d md_body D__law_same (hr.mono (by decide)) (S.glo 66) rfl (fun _ _ _ _ _ _ _ us hl => match us, hl with | [_, _], _ => rfl) (s_cons (s_lst (s_cons (s_xf md_body.k (fun q h => by rw [A.hot] at h; cases h) (xf_code A.toCA S) (s_var (pv 10))) (s_cons (s_xf md_body.k (fun q h => by rw [A.hot] at h; cases h) (xf_subject A.toCA S) (s_var (pv 10))) (s_cons (s_xf md_body.k (fun q h => by rw [A.hot] at h; cases h) (xf_most A.toCA S) (s_var (pv 10))) (s_cons (s_xf md_body.k (fun q h => by rw [A.hot] at h; cases h) (xf_code A.toCA S) (s_var (pv 11))) (s_cons (s_xf md_body.k (fun q h => by rw [A.hot] at h; cases h) (xf_ring A.toCA S) (s_var (pv 11))) (s_cons (s_xf md_body.k (fun q h => by rw [A.hot] at h; cases h) (xf_code A.toCA S) (s_var (pv 12))) (s_cons (s_xf md_body.k (fun q h => by rw [A.hot] at h; cases h) (xf_most A.toCA S) (s_var (pv 12))) s_nil)))))))) (s_cons (s_lst (s_cons s_str (s_cons s_str (s_cons (s_var (pv 2)) (s_cons s_str (s_cons (s_lst (s_cons (s_var (pv 2)) s_nil)) (s_cons s_str (s_cons (s_var (pv 2)) s_nil)))))))) s_nil))) s_nil))))
    (ss_cons (st_expr (s_mt md_body.k m_append (pe_bm PySem.F.plainAttrs_list PySem.F.slot_list_append PySem.F.type_list_append mt_append (by exact (s_var (pv 3))) (s_cons (s_d md_body D__law_same (hr.mono (by decide)) (S.glo 66) rfl (fun _ _ _ _ _ _ _ us hl => match us, hl with | [_, _], _ => rfl) (s_cons (s_lst (s_cons (s_xf md_body.k (fun q h => by rw [A.hot] at h; cases h) (xf_code A.toCA S) (s_var (pv 13))) (s_cons (s_xf md_body.k (fun q h => by rw [A.hot] at h; cases h) (xf_name A.toCA S) (s_var (pv 13))) (s_cons (s_xf md_body.k (fun q h => by rw [A.hot] at h; cases h) (xf_code A.toCA S) (s_var (pv 14))) s_nil)))) (s_cons (s_lst (s_cons s_str (s_cons (s_var (pv 2)) (s_cons s_str s_nil)))) s_nil))) s_nil))))
    (ss_cons (st_if (t_not (t_val (s_fun c_all (pe_callB (cr_all rfl) (by rfl) (S.free 67) bt_all (s_cons (s_var (pv 3)) s_nil))))) (ss_one (st_ret s_bl)) ss_nil)
    (ss_cons (st_set (i := 4) sc_law.nd rfl (Or.inl rfl) (s_bin op_addAll o_add (s_lc (own := [("_law_pair", 17)]) (pe_lc (own := [("_law_pair", 17)]) rfl sc_law.nd (i_items md_body.k (s_bin op_addAll o_add (s_bin op_addAll o_add (s_bin op_addAll o_add (s_var (pv 6)) (s_var (pv 7))) (s_var (pv 8))) (s_var (pv 9)))) (blkOk_by (N := N_law) (sc := defScope s_law) (by decide +kernel)) (fun _ _ _ _ _ => (pg_name (i := 17) sc_law.nd rfl (Or.inl rfl))) (fun _ _ _ _ _ => ts_nil) (fun _ _ _ _ _ => (s_ix md_body.blk.k (s_var (pv 17)) s_int))) tg_name) (s_lst (s_cons (s_var (pv 10)) (s_cons (s_var (pv 11)) (s_cons (s_var (pv 12)) s_nil))))))
    (ss_cons (st_if (t_not (t_val (s_fun c_all (pe_callB (cr_all rfl) (by rfl) (S.free 67) bt_all (s_cons (s_lc (own := [("_law_e", 15)]) (pe_lc (own := [("_law_e", 15)]) rfl sc_law.nd (i_items md_body.k (s_var (pv 4))) (blkOk_by (N := N_law) (sc := defScope s_law) (by decide +kernel)) (fun _ _ _ _ _ => (pg_name (i := 15) sc_law.nd rfl (Or.inl rfl))) (fun _ _ _ _ _ => ts_nil) (fun _ _ _ _ _ => (s_cmp (op_eqD hr.units) o_eq (s_d md_body.blk D__law_bases (hr.mono (by decide)) (S.glo 89) rfl (fun _ _ _ _ _ _ _ us hl => match us, hl with | [_], _ => rfl) (s_cons (s_var (pv 15)) s_nil)) (s_lst (s_cons s_bl (s_cons s_bl (s_cons s_bl (s_cons s_bl (s_cons s_bl (s_cons s_bl s_nil)))))))))) tg_name) s_nil))))) (ss_one (st_ret s_bl)) ss_nil)
    (ss_cons (st_if (t_cmp (op_neD hr.units) o_ne (s_d md_body D__law_bases (hr.mono (by decide)) (S.glo 89) rfl (fun _ _ _ _ _ _ _ us hl => match us, hl with | [_], _ => rfl) (s_cons (s_var (pv 13)) s_nil)) (s_lst (s_cons s_bl (s_cons s_bl (s_cons s_bl (s_cons s_bl (s_cons s_bl (s_cons s_bl s_nil)))))))) (ss_one (st_ret s_bl)) ss_nil)
    (ss_cons (st_if (t_cmp (op_neD hr.units) o_ne (s_d md_body D__law_bases (hr.mono (by decide)) (S.glo 89) rfl (fun _ _ _ _ _ _ _ us hl => match us, hl with | [_], _ => rfl) (s_cons (s_var (pv 14)) s_nil)) (s_lst (s_cons s_bl (s_cons s_bl (s_cons s_bl (s_cons s_bl (s_cons s_bl (s_cons s_bl s_nil)))))))) (ss_one (st_ret s_bl)) ss_nil)
    (ss_cons (st_set (i := 5) sc_law.nd rfl (Or.inl rfl) (s_exK (ks := ["most", "subject"]) (ix := [.k 1, .k 0]) md_body.k exb_ve X_TooMany____init__ (hr.mono (by decide)) (S.ex 68) (S.ex 69) (S.glo 70) (S.at_ "TooMany" (by decide)) mkr2 (fun fd F => bndQ F rfl (fun _ _ _ _ _ _ _ us ws h1 h2 => match us, ws, h1, h2 with | [_], [_, _], _, _ => rfl)) (fun _ _ => rfl) (sk_cons s_int (sk_cons s_str sk_nil))))
    (ss_one (st_ret (s_and (s_d md_body D__law_same (hr.mono (by decide)) (S.glo 66) rfl (fun _ _ _ _ _ _ _ us hl => match us, hl with | [_, _], _ => rfl) (s_cons (s_lst (s_cons (s_xf md_body.k (fun q h => by rw [A.hot] at h; cases h) (xf_subject A.toCA S) (s_var (pv 5))) (s_cons (s_xf md_body.k (fun q h => by rw [A.hot] at h; cases h) (xf_most A.toCA S) (s_var (pv 5))) (s_cons (s_xf md_body.k (fun q h => by rw [A.hot] at h; cases h) (xf_given A.toCA S) (s_exK (ks := ["given"]) (ix := [.k 0]) md_body.k exb_ve X_InvalidName____init__ (hr.mono (by decide)) (S.ex 5) (S.ex 6) (S.glo 7) (S.at_ "InvalidName" (by decide)) mkr1 (fun fd F => bndQ F rfl (fun _ _ _ _ _ _ _ us ws h1 h2 => match us, ws, h1, h2 with | [_], [_], _, _ => rfl)) (fun _ _ => rfl) (sk_cons (s_var (pv 2)) sk_nil))) s_nil)))) (s_cons (s_lst (s_cons s_str (s_cons s_int (s_cons (s_var (pv 2)) s_nil)))) s_nil))) (s_and (s_not (s_fun (c_isx A.hot (isx_of A.toCA xtb_in (S.ex 84))) (pe_callB call_isX (by rfl) (S.free 61) bt_isinstance (s_cons (s_ix md_body.k (s_ix md_body.k (s_var (pv 6)) s_int) s_int) (s_cons (s_cls (n := "InvalidNumber") (S.glo 10) (S.at_ "InvalidNumber" (by decide))) s_nil))))) (s_and (s_not (s_fun (c_isx A.hot (isx_of A.toCA xtb_in (S.ex 84))) (pe_callB call_isX (by rfl) (S.free 61) bt_isinstance (s_cons (s_ix md_body.k (s_ix md_body.k (s_var (pv 8)) s_int) s_int) (s_cons (s_cls (n := "InvalidMerge") (S.glo 49) (S.at_ "InvalidMerge" (by decide))) s_nil))))) (s_and (s_not (s_fun (c_isx A.hot (isx_of A.toCA xtb_in (S.ex 84))) (pe_callB call_isX (by rfl) (S.free 61) bt_isinstance (s_cons (s_ix md_body.k (s_ix md_body.k (s_var (pv 7)) s_int) s_int) (s_cons (s_cls (n := "InvalidText") (S.glo 25) (S.at_ "InvalidText" (by decide))) s_nil))))) (s_one (s_not (s_fun (c_isx A.hot (isx_of A.toCA xtb_in (S.ex 84))) (pe_callB call_isX (by rfl) (S.free 61) bt_isinstance (s_cons (s_var (pv 12)) (s_cons (s_cls (n := "TooMany") (S.glo 70) (S.at_ "TooMany" (by decide))) s_nil)))))))))))))))))))))))))))))
theorem ok_all (S : Kq fas fns cls c mg) (A : CW cls lams c) (T : IsOk c tb) : Dq P w c mg base d_law 6 ["_law_script"] f_law := by
  have D__law_deal := ok__law_deal (P := P) (w := w) (base := base) S A
  have D__law_pick := ok__law_pick (P := P) (w := w) (base := base) S A
  have D__law_of := ok__law_of (P := P) (w := w) (base := base) S A D__law_pick
  have X_InvalidName____init__ := ok_InvalidName____init__ (P := P) (w := w) (base := base) S
  have X_InvalidNumber____init__ := ok_InvalidNumber____init__ (P := P) (w := w) (base := base) S
  have X_InvalidBlocks____init__ := ok_InvalidBlocks____init__ (P := P) (w := w) (base := base) S
  have X_InvalidEvent____init__ := ok_InvalidEvent____init__ (P := P) (w := w) (base := base) S
  have X_InvalidWeight____init__ := ok_InvalidWeight____init__ (P := P) (w := w) (base := base) S
  have X_InvalidLimit____init__ := ok_InvalidLimit____init__ (P := P) (w := w) (base := base) S
  have X_InvalidText____init__ := ok_InvalidText____init__ (P := P) (w := w) (base := base) S
  have X_InvalidStep____init__ := ok_InvalidStep____init__ (P := P) (w := w) (base := base) S
  have X_InvalidAction____init__ := ok_InvalidAction____init__ (P := P) (w := w) (base := base) S
  have X_InvalidImage____init__ := ok_InvalidImage____init__ (P := P) (w := w) (base := base) S
  have X_InvalidChange____init__ := ok_InvalidChange____init__ (P := P) (w := w) (base := base) S
  have X_InvalidOffer____init__ := ok_InvalidOffer____init__ (P := P) (w := w) (base := base) S
  have X_InvalidCommand____init__ := ok_InvalidCommand____init__ (P := P) (w := w) (base := base) S
  have X_NotNow____init__ := ok_NotNow____init__ (P := P) (w := w) (base := base) S
  have X_InvalidMerge____init__ := ok_InvalidMerge____init__ (P := P) (w := w) (base := base) S
  have X_DuplicateName____init__ := ok_DuplicateName____init__ (P := P) (w := w) (base := base) S
  have X_InvalidWish____init__ := ok_InvalidWish____init__ (P := P) (w := w) (base := base) S
  have X_NotComparable____init__ := ok_NotComparable____init__ (P := P) (w := w) (base := base) S
  have D__law_made_errors := ok__law_made_errors (P := P) (w := w) (base := base) S A X_InvalidName____init__ X_InvalidNumber____init__ X_InvalidBlocks____init__ X_InvalidEvent____init__ X_InvalidWeight____init__ X_InvalidLimit____init__ X_InvalidText____init__ X_InvalidStep____init__ X_InvalidAction____init__ X_InvalidImage____init__ X_InvalidChange____init__ X_InvalidOffer____init__ X_InvalidCommand____init__ X_NotNow____init__ X_InvalidMerge____init__ X_DuplicateName____init__ X_InvalidWish____init__ X_NotComparable____init__
  have D__law_same := ok__law_same (P := P) (w := w) (base := base) S A T 4
  have X_TooMany____init__ := ok_TooMany____init__ (P := P) (w := w) (base := base) S
  have X_Stuck____init__ := ok_Stuck____init__ (P := P) (w := w) (base := base) S
  have X_Full____init__ := ok_Full____init__ (P := P) (w := w) (base := base) S
  have X_UnknownName____init__ := ok_UnknownName____init__ (P := P) (w := w) (base := base) S
  have X_NothingLeft____init__ := ok_NothingLeft____init__ (P := P) (w := w) (base := base) S
  have D__law_bases := ok__law_bases (P := P) (w := w) (base := base) S A
  have D_law := ok_law (P := P) (w := w) (base := base) S A T X_TooMany____init__ X_Stuck____init__ X_Full____init__ X_UnknownName____init__ X_NothingLeft____init__ X_InvalidName____init__ D__law_deal D__law_of D__law_pick D__law_made_errors D__law_same D__law_bases
  exact D_law
end
end K01

set_option maxHeartbeats 4000000
namespace K01
open PySem PySem.Spec PyProof.Rows L2 LamX NdefX Q
/-! ### the head -/
abbrev R : PySem.W.OpenRow := PySem.W.OpenLaw.row PySem.Challenge.rw_queuecut_k01_errors_by_themselves
abbrev hk : PySem.W.Hook := hookL 5 fas fns (ads.map (·.1))
def ob (s : PySem.W.SharedT) : AlL := obsLG 5 fas fns (ads.map (·.1)) (HandSHeadRun.getT s)
theorem ob_is (s : PySem.W.SharedT) : ob s = hk.obs s.abs := obsLG_is (HandSHeadRun.getT_eq s)
theorem top_run (w : World) : HandSHeadRun.RunEq R (PySem.W.view R.prog [33]) hk ob 20000 ["QueueError", "Missing", "InvalidName", "InvalidNumber", "InvalidBlocks", "InvalidText", "InvalidStep", "InvalidMerge", "InvalidAction", "InvalidImage", "InvalidEvent", "InvalidWeight", "InvalidWish", "InvalidChange", "InvalidOffer", "InvalidLimit", "InvalidCommand", "DuplicateName", "TooMany", "Stuck", "NotNow", "NotComparable", "Full", "UnknownName", "NothingLeft", "_law_deal", "_law_pick", "_law_of", "_law_same", "_law_bases", "_law_made_errors"] w := by
  intro os
  kernel_rfl
def clOf (K : PySem.W.Frag) : Cl := { K := K, adr := fun n => if cls.contains n = true then some (He.ga K n) else none, tabs := tabsOf K ads, lams := lams }
theorem cw_of (K : PySem.W.Frag) : CW cls lams (clOf K) where
  adr := fun n C e => by
    have e : (if cls.contains n = true then some (He.ga K n) else none) = some C := e
    split at e
    · rename_i q; cases e; exact ⟨rfl, List.contains_iff_mem.mp q⟩
    · cases e
  at_ := fun n m => if_pos (List.contains_iff_mem.mpr m)
  own := rfl
  hot := rfl
  lams := rfl
theorem law_facts {P : Program} {w : World} {K : PySem.W.Frag} {h : Heap} {mg : Str → Option Value} {f : Addr} (X : K.In h) (G : h.Ns mainGlobals mg) (hf : mg ("law" : Str) = some (.ref f)) (says : SaysL fas fns (ads.map (·.1)) K h) :
    ∃ fd : FuncData, (∀ (s : Shared) (v : Value), BindsTo s fd ⟨[v], []⟩ [("_law_script", v)]) ∧ ∀ base : Heap, K.In base → base.Ns mainGlobals mg → (∀ p ∈ codesOf K ads, TabB base mg p.1 p.2) → FnOk P w K mg base (L2.CX P w) 6 f fd ["_law_script"] (spF (clOf K) 1 f_law) := by
  have A := cw_of K
  have S : Kq fas fns cls (clOf K) mg := ⟨says_fact says.q, says_def says.q, ⟨h, X, G⟩, A.at_⟩
  have T : IsOk (clOf K) tb := isOk_of A.toCA (S.ex 93) (S.ex 94) (by intro p m; exact nomatch m)
  have e := hf.symm.trans (S.glo 95)
  cases e
  obtain ⟨fd, F0⟩ := says_def says.q 29 d_law rfl
  have F := F0.funD rfl
  have b := FunD.bindsA (ps := ["_law_script"]) (x := "law") (qual := "law") (params := defArgs s_law) (body := defBody s_law) (scope := defScope s_law) F fun _ _ _ _ _ _ us hl => match us, hl with | [_], _ => rfl
  refine ⟨fd, fun s v => b s [v] rfl, fun base _ _ TB => ?_⟩
  obtain ⟨fd3, h3, h4⟩ := (ok_all (P := P) (w := w) (base := base) S A T).ex
  have := F0.one h4
  subst this
  exact h3
end K01
open PySem PySem.W PySem.Calls PyProof.Rows
theorem PySem.Challenge.cw_queuecut_k01_errors_by_themselves_holds : PySem.Challenge.rw_queuecut_k01_errors_by_themselves.Holds := by
  w_on; o_law
  refine HandSHeadRun.head_any (r := OpenLaw.row PySem.Challenge.rw_queuecut_k01_errors_by_themselves) (q := view (OpenLaw.row PySem.Challenge.rw_queuecut_k01_errors_by_themselves).prog [33]) (H := K01.hk) (ob := K01.ob) (M := 20000) (loose := ["QueueError", "Missing", "InvalidName", "InvalidNumber", "InvalidBlocks", "InvalidText", "InvalidStep", "InvalidMerge", "InvalidAction", "InvalidImage", "InvalidEvent", "InvalidWeight", "InvalidWish", "InvalidChange", "InvalidOffer", "InvalidLimit", "InvalidCommand", "DuplicateName", "TooMany", "Stuck", "NotNow", "NotComparable", "Full", "UnknownName", "NothingLeft", "_law_deal", "_law_pick", "_law_of", "_law_same", "_law_bases", "_law_made_errors"]) (d := HandSHeadRun.topDef (OpenLaw.row PySem.Challenge.rw_queuecut_k01_errors_by_themselves).prog 33) (kwd := []) K01.ob_is
    (by kernel_rfl) (fun s => by kernel_rfl) K01.top_run (by kernel_rfl) (by kernel_rfl) (by kernel_rfl) (by rfl) (by first | assumption | decide +kernel) (by decide +kernel) ⟨rfl, rfl, rfl, rfl, rfl, by decide +kernel⟩ ?hw ?hc
  case hw => w_witness2
  case hc =>
    refine Q.law_endL (l := PySem.Challenge.rw_queuecut_k01_errors_by_themselves) (n := 63) (k := 6) (x := "_law_script") (ads := K01.ads) (fa := K01.fas) (fn := K01.fns) rfl (by decide) (by kernel_rfl) ⟨rfl, by decide, by decide⟩ ?_
    intro w mg fa h Y G hmg0
    obtain ⟨K, KX, says⟩ := Y
    have hmg : mg ("law" : PySem.Str) = some (.ref fa) := by
      have e : (HandSHeadRun.topDef (OpenLaw.row PySem.Challenge.rw_queuecut_k01_errors_by_themselves).prog 33).name = ("law" : PySem.Str) := by kernel_rfl
      rw [← e]
      exact hmg0
    obtain ⟨fd, hb, hF⟩ := K01.law_facts (P := (PySem.Challenge.rw_queuecut_k01_errors_by_themselves).prog) (w := w) KX G hmg says
    exact ⟨K01.clOf K, fd, K01.f_law, KX, says, rfl, hb, fun ns hl _ => K01.law_pure ns hl, hF⟩
