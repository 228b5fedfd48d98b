import PyProof.Rows.All
import Wide.All
import OpenK.AllK
import Wide.FinOn
import KE.KStateDown
import HandS.ForMost
import HandS.Exc
import HandS.ExcOwn
import HandS.TryOnly
import HandS.TryMany
import HandS.WordsExc
import HandS.Defaults
import HandS.IsInst
import HandS.HeadHook1
import HandS.ExcCtx
import HandS.HotCalls
import KE.KDictKeyed
import HandS.Dict
import HandS.TupAny
import HandS.TupMul
import HandS.Wide
import HandS.Deep
import KE.KExcInit
import HandS.ExcIs
import HandS.HeadHook2
import HandS.HeadEnd
import HandS.Ends
import HandS.Property
import HandS.MakeKw
import HandS.MakeKwOnly
import HandS.OwnEq
import OpenK.KOps
import OpenK.KWalk
import KE.GoesEnum
import HandS.Star
import HandS.Iter
import PyProof.Rows.SeqRoads
import HandS.Head0
import HandS.Head1
import HandS.Head2
import PySem.Challenge.RW_pagesonce_k01_printers_and_plans_as_give
set_option Elab.async false
set_option linter.all false
set_option maxRecDepth 100000
set_option maxHeartbeats 4000000
namespace DL
open PySem PySem.Spec PyProof.Rows L2
/-! ## Data -/
inductive D where
  | non | bl (b : Bool) | int (i : Int) | str (x : Str)
  | tup (ds : List D) | lst (ds : List D)
  | obj (c : Str) (fs : List (Str × D))
  | dct (kvs : List (D × D))
  | scr (ns : List Int)
  | ty (n : String) | cls (c : Str)
  | exn (a dd : Addr) (c : Str) (x : D)
  | dtn (w : World) (kvs : List (D × D))
inductive Va where
  | d (x : D) | l (n : Nat)
inductive Ce where
  | lst (ds : List D) | dct (kvs : List (D × D)) | obj (c : Str) (fs : List (Str × Va)) | dtn (w : World) (kvs : List (D × Va))
abbrev Env := List (Option Va)
abbrev Mu := List (Option Ce)
inductive R (a : Type) where
  | ok (x : a) (m : Mu) | exc (c : Str) (d : D) (m : Mu) | stuck
inductive RS where
  | nx (e : Env) (m : Mu) | ret (x : Va) (e : Env) (m : Mu) | brk (e : Env) (m : Mu) | cnt (e : Env) (m : Mu) | exc (c : Str) (d : D) (e : Env) (m : Mu) | stuck
inductive R0 where
  | ok (d : D) | exc (c : Str) (d : D) | stuck
def R.bind {a b : Type} (x : R a) (f : a → Mu → R b) : R b := match x with
  | .ok y m => f y m
  | .exc c d m => .exc c d m
  | .stuck => .stuck
def R.toS {a : Type} (x : R a) (e : Env) (f : a → Mu → RS) : RS := match x with
  | .ok y m => f y m
  | .exc c d m => .exc c d e m
  | .stuck => .stuck
def RS.thn (r : RS) (v : Env → Mu → RS) : RS := match r with
  | .nx e m => v e m
  | r => r
def RS.loop (r : RS) (v : Env → Mu → RS) : RS := match r with
  | .nx e m => v e m
  | .cnt e m => v e m
  | .brk e m => .nx e m
  | r => r
/-- of a store: that it goes on -/
def RS.stored (r : RS) (v : Env → Mu → RS) : RS := match r with
  | .nx e m => v e m
  | _ => .stuck
section
variable {a b : Type} {x : a} {m : Mu} {c : Str} {d : D} {e : Env} {v : Va} {f : a → Mu → R b} {g : a → Mu → RS} {h : Env → Mu → RS}
@[simp] theorem R.bind_ok : (R.ok x m).bind f = f x m := rfl
@[simp] theorem R.bind_exc : (R.exc c d m : R a).bind f = .exc c d m := rfl
@[simp] theorem R.bind_stuck : (R.stuck : R a).bind f = .stuck := rfl
@[simp] theorem R.toS_ok : (R.ok x m).toS e g = g x m := rfl
@[simp] theorem R.toS_exc : (R.exc c d m : R a).toS e g = .exc c d e m := rfl
@[simp] theorem R.toS_stuck : (R.stuck : R a).toS e g = .stuck := rfl
@[simp] theorem RS.thn_nx : (RS.nx e m).thn h = h e m := rfl
@[simp] theorem RS.thn_ret : (RS.ret v e m).thn h = .ret v e m := rfl
@[simp] theorem RS.thn_brk : (RS.brk e m).thn h = .brk e m := rfl
@[simp] theorem RS.thn_cnt : (RS.cnt e m).thn h = .cnt e m := rfl
@[simp] theorem RS.thn_exc : (RS.exc c d e m).thn h = .exc c d e m := rfl
@[simp] theorem RS.thn_stuck : RS.stuck.thn h = .stuck := rfl
@[simp] theorem RS.loop_nx : (RS.nx e m).loop h = h e m := rfl
@[simp] theorem RS.loop_ret : (RS.ret v e m).loop h = .ret v e m := rfl
@[simp] theorem RS.loop_brk : (RS.brk e m).loop h = .nx e m := rfl
@[simp] theorem RS.loop_cnt : (RS.cnt e m).loop h = h e m := rfl
@[simp] theorem RS.loop_exc : (RS.exc c d e m).loop h = .exc c d e m := rfl
@[simp] theorem RS.loop_stuck : RS.stuck.loop h = .stuck := rfl
@[simp] theorem RS.stored_nx : (RS.nx e m).stored h = h e m := rfl
end
mutual
/-- a datum as a key -/
def nkD : D → Option NestedKey
  | .non => some .none
  | .bl b => some (.num (if b = true then 1 else 0))
  | .int i => some (.num i)
  | .str x => some (.text x)
  | .tup ds => (nkDs ds).map .tup
  | _ => none
def nkDs : List D → Option (List NestedKey)
  | [] => some []
  | d :: ds => (match nkD d, nkDs ds with
    | some k, some ks => some (k :: ks)
    | _, _ => none)
end
/-- a dict whose keys are nested tuples: its object -/
def DtRaw (w : World) (a : Addr) (xs : List (NestedKey × Addr × Value)) (h : Heap) : Prop := xs.length ≤ sizeLine ∧ (a == sysModules) = false ∧ (xs.map (·.1)).Nodup ∧
  ∃ o es ep, h.get? a = some o ∧ o.ExactDict ∧ o.data = .dict es ep ∧ es.toList = xs.map fun x => ⟨NestedKey.hash w x.1, .ref x.2.1, x.2.2⟩
def dN (w : World) (a : Addr) (xs : List (NestedKey × Addr × Value)) : HO := .ext (DtRaw w a xs)
abbrev cA (K : PySem.W.Frag) (c : Str) : Addr := He.ga K c
section
variable (K : PySem.W.Frag) (H : Hp)
/-- the entries of a dict (keys texts or ints) -/
def DctO (o : HO) (ws : List (V × V)) : Prop := ∃ kvs, o = .dK kvs ∧ ws = kvs.map fun p => (kV p.1, p.2)
mutual
def Rep : D → V → Prop
  | .non, v => v = .non
  | .bl b, v => v = .bl b
  | .int i, v => v = .int i
  | .str x, v => v = .str x
  | .tup ds, v => ∃ a vs, v = .ref a ∧ SqT K H a vs ∧ Reps ds vs
  | .lst ds, v => ∃ a vs, v = .ref a ∧ H a = some (.lst vs) ∧ Reps ds vs
  | .obj c fs, v => ∃ a dx vs, v = .ref a ∧ H a = some (.ins (cA K c) dx vs) ∧ RepF fs vs
  | .dct kvs, v => ∃ a o ws, v = .ref a ∧ H a = some o ∧ DctO o ws ∧ RepP kvs ws
  | .scr ns, v => ∃ a, v = .ref a ∧ SqL K H a (ns.map V.int)
  | .ty n, v => v = .ty n
  | .cls c, v => v = .ref (cA K c)
  | .exn a dd _ x, v => v = .ref a ∧ ∃ u, H dd = some (.xd [(("at" : Str), u)]) ∧ Rep x u
  | .dtn w kvs, v => ∃ a xs, v = .ref a ∧ H a = some (dN w a xs) ∧ RepX kvs xs
def Reps : List D → List V → Prop
  | [], vs => vs = []
  | d :: ds, vs => ∃ v r, vs = v :: r ∧ Rep d v ∧ Reps ds r
def RepF : List (Str × D) → List (Str × V) → Prop
  | [], vs => vs = []
  | (x, d) :: fs, vs => ∃ v r, vs = (x, v) :: r ∧ Rep d v ∧ RepF fs r
def RepP : List (D × D) → List (V × V) → Prop
  | [], vs => vs = []
  | (k, d) :: fs, vs => ∃ u v r, vs = (u, v) :: r ∧ Rep k u ∧ Rep d v ∧ RepP fs r
def RepX : List (D × D) → List (NestedKey × Addr × Value) → Prop
  | [], xs => xs = []
  | (k, d) :: kvs, xs => ∃ nk b u v r, xs = (nk, b, u) :: r ∧ nkD k = some nk ∧ nk.depth ≤ 8 ∧ Rep k (.ref b) ∧ Rep d v ∧ RelV v u ∧ RepX kvs r
end
end
section
variable {K : PySem.W.Frag} {H H' : Hp}
theorem Same.seqT (e : Same H H') {a : Addr} {xs : List V} (h : SqT K H a xs) : SqT K H' a xs := by
  rcases h with (h | ⟨o, h⟩) | h
  · exact .inl (.inl (e _ _ h))
  · exact .inl (.inr ⟨o, e _ _ h⟩)
  · exact .inr h
mutual
theorem Rep.mono (e : Same H H') : ∀ {d : D} {v : V}, Rep K H d v → Rep K H' d v
  | .non, v, h => by simpa only [Rep] using h
  | .bl b, v, h => by simpa only [Rep] using h
  | .int i, v, h => by simpa only [Rep] using h
  | .str x, v, h => by simpa only [Rep] using h
  | .tup ds, v, h => by
    simp only [Rep] at h ⊢
    obtain ⟨a, vs, e1, e2, e3⟩ := h
    exact ⟨a, vs, e1, Same.seqT e e2, Reps.mono e e3⟩
  | .lst ds, v, h => by
    simp only [Rep] at h ⊢
    obtain ⟨a, vs, e1, e2, e3⟩ := h
    exact ⟨a, vs, e1, e _ _ e2, Reps.mono e e3⟩
  | .obj c fs, v, h => by
    simp only [Rep] at h ⊢
    obtain ⟨a, dx, vs, e1, e2, e3⟩ := h
    exact ⟨a, dx, vs, e1, e _ _ e2, RepF.mono e e3⟩
  | .dct kvs, v, h => by
    simp only [Rep] at h ⊢
    obtain ⟨a, o, ws, e1, e2, e3, e4⟩ := h
    exact ⟨a, o, ws, e1, e _ _ e2, e3, RepP.mono e e4⟩
  | .scr ns, v, h => by
    simp only [Rep] at h ⊢
    obtain ⟨a, e1, e2⟩ := h
    exact ⟨a, e1, Same.seq e e2⟩
  | .ty n, v, h => by simpa only [Rep] using h
  | .cls n, v, h => by simpa only [Rep] using h
  | .exn a dd c x, v, h => by
    simp only [Rep] at h ⊢
    obtain ⟨e1, u, e2, e3⟩ := h
    exact ⟨e1, u, e _ _ e2, Rep.mono e e3⟩
  | .dtn w kvs, v, h => by
    simp only [Rep] at h ⊢
    obtain ⟨a, xs, e1, e2, e3⟩ := h
    exact ⟨a, xs, e1, e _ _ e2, RepX.mono e e3⟩
theorem Reps.mono (e : Same H H') : ∀ {ds : List D} {vs : List V}, Reps K H ds vs → Reps K H' ds vs
  | [], vs, h => by simpa only [Reps] using h
  | d :: ds, vs, h => by
    simp only [Reps] at h ⊢
    obtain ⟨v, r, e1, e2, e3⟩ := h
    exact ⟨v, r, e1, Rep.mono e e2, Reps.mono e e3⟩
theorem RepF.mono (e : Same H H') : ∀ {ds : List (Str × D)} {vs : List (Str × V)}, RepF K H ds vs → RepF K H' ds vs
  | [], vs, h => by simpa only [RepF] using h
  | (x, d) :: ds, vs, h => by
    simp only [RepF] at h ⊢
    obtain ⟨v, r, e1, e2, e3⟩ := h
    exact ⟨v, r, e1, Rep.mono e e2, RepF.mono e e3⟩
theorem RepP.mono (e : Same H H') : ∀ {ds : List (D × D)} {vs : List (V × V)}, RepP K H ds vs → RepP K H' ds vs
  | [], vs, h => by simpa only [RepP] using h
  | (x, d) :: ds, vs, h => by
    simp only [RepP] at h ⊢
    obtain ⟨u, v, r, e1, e2, e3, e4⟩ := h
    exact ⟨u, v, r, e1, Rep.mono e e2, Rep.mono e e3, RepP.mono e e4⟩
theorem RepX.mono (e : Same H H') : ∀ {ds : List (D × D)} {xs : List (NestedKey × Addr × Value)}, RepX K H ds xs → RepX K H' ds xs
  | [], vs, h => by simpa only [RepX] using h
  | (x, d) :: ds, vs, h => by
    simp only [RepX] at h ⊢
    obtain ⟨nk, b, u, v, r, e1, e2, e3, e4, e5, e6, e7⟩ := h
    exact ⟨nk, b, u, v, r, e1, e2, e3, Rep.mono e e4, Rep.mono e e5, e6, RepX.mono e e7⟩
end
theorem reps_nil {vs : List V} : Reps K H [] vs ↔ vs = [] := by simp only [Reps]
theorem reps_cons {d : D} {ds : List D} {v : V} {vs : List V} : Reps K H (d :: ds) (v :: vs) ↔ Rep K H d v ∧ Reps K H ds vs := by
  simp only [Reps]
  constructor
  · rintro ⟨v', r, e, h1, h2⟩
    cases e
    exact ⟨h1, h2⟩
  · rintro ⟨h1, h2⟩
    exact ⟨v, vs, rfl, h1, h2⟩
theorem Reps.length : ∀ {ds : List D} {vs : List V}, Reps K H ds vs → vs.length = ds.length
  | [], vs, h => by rw [reps_nil] at h; rw [h]; rfl
  | d :: ds, vs, h => by
    simp only [Reps] at h
    obtain ⟨v, r, e1, _, e3⟩ := h
    rw [e1, List.length_cons, List.length_cons, Reps.length e3]
theorem Reps.get : ∀ {ds : List D} {vs : List V} {i : Nat} {d : D}, Reps K H ds vs → ds[i]? = some d → ∃ v, vs[i]? = some v ∧ Rep K H d v
  | [], vs, i, d, h, e => by simp at e
  | d :: ds, vs, 0, d', h, e => by
    simp only [Reps] at h
    obtain ⟨v, r, e1, e2, e3⟩ := h
    simp at e
    subst e e1
    exact ⟨v, rfl, e2⟩
  | d :: ds, vs, i + 1, d', h, e => by
    simp only [Reps] at h
    obtain ⟨v, r, e1, e2, e3⟩ := h
    subst e1
    obtain ⟨v', h1, h2⟩ := Reps.get (i := i) e3 (by simpa using e)
    exact ⟨v', by simpa using h1, h2⟩
theorem Reps.get' {ds : List D} {vs : List V} {i : Nat} {v : V} (h : Reps K H ds vs) (e : vs[i]? = some v) : ∃ d, ds[i]? = some d ∧ Rep K H d v := by
  have hl := h.length
  have hi : i < ds.length := by rw [← hl]; exact (List.getElem?_eq_some_iff.mp e).1
  obtain ⟨v', e1, e2⟩ := h.get (d := ds[i]) (List.getElem?_eq_getElem hi)
  rw [e] at e1
  cases e1
  exact ⟨_, List.getElem?_eq_getElem hi, e2⟩
theorem Reps.append : ∀ {ds es : List D} {vs us : List V}, Reps K H ds vs → Reps K H es us → Reps K H (ds ++ es) (vs ++ us)
  | [], es, vs, us, h, h' => by rw [reps_nil] at h; subst h; exact h'
  | d :: ds, es, vs, us, h, h' => by
    simp only [Reps] at h
    obtain ⟨v, r, e1, e2, e3⟩ := h
    subst e1
    exact reps_cons.mpr ⟨e2, Reps.append e3 h'⟩
theorem Reps.one {d : D} {v : V} (h : Rep K H d v) : Reps K H [d] [v] := reps_cons.mpr ⟨h, reps_nil.mpr rfl⟩
theorem Reps.take : ∀ {ds : List D} {vs : List V} (n : Nat), Reps K H ds vs → Reps K H (ds.take n) (vs.take n)
  | ds, vs, 0, h => by
    rw [List.take_zero, List.take_zero]
    exact reps_nil.mpr rfl
  | [], vs, n + 1, h => by
    rw [reps_nil] at h
    subst h
    first | exact reps_nil.mpr rfl | (simp [reps_nil])
  | d :: ds, vs, n + 1, h => by
    simp only [Reps] at h
    obtain ⟨v, r, e1, e2, e3⟩ := h
    subst e1
    exact reps_cons.mpr ⟨e2, Reps.take n e3⟩
theorem Reps.drop : ∀ {ds : List D} {vs : List V} (n : Nat), Reps K H ds vs → Reps K H (ds.drop n) (vs.drop n)
  | ds, vs, 0, h => h
  | [], vs, n + 1, h => by
    rw [reps_nil] at h
    subst h
    first | exact reps_nil.mpr rfl | (simp [reps_nil])
  | d :: ds, vs, n + 1, h => by
    simp only [Reps] at h
    obtain ⟨v, r, e1, e2, e3⟩ := h
    subst e1
    exact Reps.drop n e3
theorem Reps.reverse : ∀ {ds : List D} {vs : List V}, Reps K H ds vs → Reps K H ds.reverse vs.reverse
  | [], vs, h => by
    rw [reps_nil] at h
    subst h
    first | exact reps_nil.mpr rfl | (simp [reps_nil])
  | d :: ds, vs, h => by
    simp only [Reps] at h
    obtain ⟨v, r, e1, e2, e3⟩ := h
    subst e1
    rw [List.reverse_cons, List.reverse_cons]
    exact Reps.append (Reps.reverse e3) (Reps.one e2)
theorem Reps.set : ∀ {ds : List D} {vs : List V} {d : D} {v : V} (i : Nat), Reps K H ds vs → Rep K H d v → Reps K H (ds.set i d) (vs.set i v)
  | [], vs, d', v', i, h, h' => by
    rw [reps_nil] at h
    subst h
    first | exact reps_nil.mpr rfl | (simp [reps_nil])
  | d :: ds, vs, d', v', 0, h, h' => by
    simp only [Reps] at h
    obtain ⟨v, r, e1, e2, e3⟩ := h
    subst e1
    exact reps_cons.mpr ⟨h', e3⟩
  | d :: ds, vs, d', v', i + 1, h, h' => by
    simp only [Reps] at h
    obtain ⟨v, r, e1, e2, e3⟩ := h
    subst e1
    exact reps_cons.mpr ⟨e2, Reps.set i e3 h'⟩
end
/-! ## State -/
section
variable (K : PySem.W.Frag)
def RepA (Hs : Hp) (rh : List Addr) : Va → V → Prop
  | .d x, v => Rep K Hs x v
  | .l n, v => ∃ a, rh[n]? = some a ∧ v = .ref a
def RepAs (Hs : Hp) (rh : List Addr) : List Va → List V → Prop
  | [], vs => vs = []
  | d :: ds, vs => ∃ v r, vs = v :: r ∧ RepA K Hs rh d v ∧ RepAs Hs rh ds r
def RepAF (Hs : Hp) (rh : List Addr) : List (Str × Va) → List (Str × V) → Prop
  | [], vs => vs = []
  | (x, d) :: fs, vs => ∃ v r, vs = (x, v) :: r ∧ RepA K Hs rh d v ∧ RepAF Hs rh fs r
def RepAX (Hs : Hp) (rh : List Addr) : List (D × Va) → List (NestedKey × Addr × Value) → Prop
  | [], xs => xs = []
  | (k, d) :: kvs, xs => ∃ nk b u v r, xs = (nk, b, u) :: r ∧ nkD k = some nk ∧ nk.depth ≤ 8 ∧ Rep K Hs k (.ref b) ∧ RepA K Hs rh d v ∧ RelV v u ∧ RepAX Hs rh kvs r
/-- values that are data -/
def datP : List (D × Va) → Option (List (D × D))
  | [] => some []
  | (k, .d x) :: r => (datP r).map ((k, x) :: ·)
  | (_, .l _) :: _ => none
def RepO (Hs : Hp) (rh : List Addr) (a : Addr) : Ce → HO → Prop
  | .dtn w kvs, o => ∃ xs, o = dN w a xs ∧ (xs.map (·.1)).Nodup ∧ RepAX K Hs rh kvs xs
  | .lst ds, o => ∃ vs, o = .lst vs ∧ Reps K Hs ds vs
  | .dct kvs, o => ∃ ws, DctO o ws ∧ RepP K Hs kvs ws
  | .obj c fs, o => ∃ dx vs, o = .ins (cA K c) dx vs ∧ RepAF K Hs rh fs vs
structure SC (Hs H : Hp) (rh : List Addr) (mu : Mu) : Prop where
  same : Same Hs H
  mlen : mu.length = rh.length
  cell : ∀ (n : Nat) (c : Ce), mu[n]? = some (some c) → ∃ a o, rh[n]? = some a ∧ Hs a = none ∧ H a = some o ∧ RepO K Hs rh a c o
  nd : rh.Nodup
  old : ∀ a ∈ rh, H a ≠ none
structure SR (Hs H : Hp) (rh : List Addr) (sg : L2.St) (et : Env) (mu : Mu) : Prop where
  sc : SC K Hs H rh mu
  len : sg.length = et.length
  val : ∀ (i : Nat) (d : Va), et[i]? = some (some d) → ∃ v, sg[i]? = some (some v) ∧ RepA K Hs rh d v
end
/-- an error's own dict, new since H, held by nobody -/
structure XdAt (H Hs' H' : Hp) (rh' : List Addr) (dx : Addr) (v : V) : Prop where
  new : H dx = none
  fro : Hs' dx = none
  cel : dx ∉ rh'
  at_ : H' dx = some (.xd [(("at" : Str), v)])
structure Ext (Hs H : Hp) (rh : List Addr) (Hs' H' : Hp) (rh' : List Addr) : Prop where
  sub : Same Hs Hs'
  pre : rh <+: rh'
  keep : ∀ b o, H b = some o → b ∉ rh → H' b = some o
  there : ∀ b, H b ≠ none → H' b ≠ none
  new : ∀ b ∈ rh', b ∈ rh ∨ H b = none
  froz : ∀ b, Hs' b ≠ none → Hs b ≠ none ∨ H b = none ∨ b ∈ rh
section
variable {K : PySem.W.Frag} {Hs H Hs1 H1 Hs2 H2 : Hp} {rh rh1 rh2 : List Addr} {sg : L2.St} {et : Env} {mu mu1 : Mu}
theorem Ext.refl : Ext Hs H rh Hs H rh := ⟨.refl _, List.prefix_refl _, fun _ _ h _ => h, fun _ h => h, fun _ h => .inl h, fun _ h => .inl h⟩
theorem Ext.trans (a : Ext Hs H rh Hs1 H1 rh1) (b : Ext Hs1 H1 rh1 Hs2 H2 rh2) : Ext Hs H rh Hs2 H2 rh2 where
  sub := a.sub.trans b.sub
  pre := a.pre.trans b.pre
  keep := fun c o h n => b.keep c o (a.keep c o h n) fun z => (a.new c z).elim n fun q => by rw [q] at h; cases h
  there := fun c h => b.there c (a.there c h)
  new := fun c h => (b.new c h).elim (fun z => a.new c z) fun q => .inr (Classical.byContradiction fun z => a.there c z q)
  froz := fun c h => by
    rcases b.froz c h with z | z | z
    · exact a.froz c z
    · exact .inr (.inl (Classical.byContradiction fun q => a.there c q z))
    · exact (a.new c z).elim (fun q => .inr (.inr q)) fun q => .inr (.inl q)
theorem XdAt.base {Hs' H' : Hp} {rh' : List Addr} {dx : Addr} {v : V} (q : XdAt H1 Hs' H' rh' dx v) (x : Ext Hs H rh Hs1 H1 rh1) : XdAt H Hs' H' rh' dx v :=
  ⟨Classical.byContradiction fun z => x.there dx z q.new, q.fro, q.cel, q.at_⟩
theorem RepA.mono (s : Same Hs Hs1) (p : rh <+: rh1) {d : Va} {v : V} (h : RepA K Hs rh d v) : RepA K Hs1 rh1 d v := by
  cases d with
  | d x => exact Rep.mono s h
  | l n =>
    obtain ⟨a, e, r⟩ := h
    obtain ⟨t, q⟩ := p
    refine ⟨a, ?_, r⟩
    rw [← q, List.getElem?_append_left (List.getElem?_eq_some_iff.mp e).1]
    exact e
theorem RepA.ext (x : Ext Hs H rh Hs1 H1 rh1) {d : Va} {v : V} (h : RepA K Hs rh d v) : RepA K Hs1 rh1 d v := h.mono x.sub x.pre
theorem RepAs.mono (s : Same Hs Hs1) (p : rh <+: rh1) : ∀ {ds : List Va} {vs : List V}, RepAs K Hs rh ds vs → RepAs K Hs1 rh1 ds vs
  | [], _, h => h
  | _ :: _, _, ⟨v, r, e, h1, h2⟩ => ⟨v, r, e, h1.mono s p, RepAs.mono s p h2⟩
theorem RepAF.mono (s : Same Hs Hs1) (p : rh <+: rh1) : ∀ {ds : List (Str × Va)} {vs : List (Str × V)}, RepAF K Hs rh ds vs → RepAF K Hs1 rh1 ds vs
  | [], _, h => h
  | (_, _) :: _, _, ⟨v, r, e, h1, h2⟩ => ⟨v, r, e, h1.mono s p, RepAF.mono s p h2⟩
theorem RepAX.mono (s : Same Hs Hs1) (p : rh <+: rh1) : ∀ {ds : List (D × Va)} {xs : List (NestedKey × Addr × Value)}, RepAX K Hs rh ds xs → RepAX K Hs1 rh1 ds xs
  | [], _, h => h
  | (_, _) :: _, _, ⟨nk, b, u, v, r, e1, e2, e3, e4, e5, e6, e7⟩ => ⟨nk, b, u, v, r, e1, e2, e3, Rep.mono s e4, e5.mono s p, e6, RepAX.mono s p e7⟩
theorem RepAX.dat : ∀ {ds : List (D × Va)} {es : List (D × D)} {xs : List (NestedKey × Addr × Value)}, RepAX K Hs rh ds xs → datP ds = some es → RepX K Hs es xs
  | [], es, xs, h, e => by
    cases e
    simp only [RepX]
    exact h
  | (k, .d x) :: r, es, xs, h, e => by
    obtain ⟨nk, b, u, v, r', e1, e2, e3, e4, e5, e6, e7⟩ := h
    have e' : (datP r).map ((k, x) :: ·) = some es := e
    obtain ⟨es', q, rfl⟩ := Option.map_eq_some_iff.mp e'
    simp only [RepX]
    exact ⟨nk, b, u, v, r', e1, e2, e3, e4, e5, e6, RepAX.dat e7 q⟩
  | (k, .l _) :: r, es, xs, h, e => by cases e
theorem RepO.mono (s : Same Hs Hs1) (p : rh <+: rh1) {a : Addr} : ∀ {c : Ce} {o : HO}, RepO K Hs rh a c o → RepO K Hs1 rh1 a c o
  | .dtn _ _, _, ⟨xs, e, nd, h⟩ => ⟨xs, e, nd, RepAX.mono s p h⟩
  | .lst _, _, ⟨vs, e, h⟩ => ⟨vs, e, Reps.mono s h⟩
  | .dct _, _, ⟨ws, e, h⟩ => ⟨ws, e, RepP.mono s h⟩
  | .obj _ _, _, ⟨dx, vs, e, h⟩ => ⟨dx, vs, e, RepAF.mono s p h⟩
theorem SR.set (s : SR K Hs H rh sg et mu) {i : Nat} {d : Va} {v : V} (h : RepA K Hs rh d v) : SR K Hs H rh (sg.set i (some v)) (et.set i (some d)) mu := by
  refine ⟨s.sc, by rw [List.length_set, List.length_set, s.len], fun j e he => ?_⟩
  by_cases hj : i = j
  · subst hj
    have hi : i < et.length := by
      have q := (List.getElem?_eq_some_iff.mp he).1
      rwa [List.length_set] at q
    rw [List.getElem?_set_self hi] at he
    cases he
    exact ⟨v, List.getElem?_set_self (by rw [s.len]; exact hi), h⟩
  · rw [List.getElem?_set_ne hj] at he
    rw [List.getElem?_set_ne hj]
    exact s.val j e he
theorem SR.wipe (s : SR K Hs H rh sg et mu) {i : Nat} : SR K Hs H rh (sg.set i none) (et.set i none) mu := by
  refine ⟨s.sc, by rw [List.length_set, List.length_set, s.len], fun j e he => ?_⟩
  by_cases hj : i = j
  · subst hj
    have hi : i < et.length := by
      have q := (List.getElem?_eq_some_iff.mp he).1
      rwa [List.length_set] at q
    rw [List.getElem?_set_self hi] at he
    cases he
  · rw [List.getElem?_set_ne hj] at he
    rw [List.getElem?_set_ne hj]
    exact s.val j e he
/-- a new frozen object -/
theorem SC.laid (s : SC K Hs H rh mu) {p : Addr} {o : HO} (hp : H p = none) : SC K (upd Hs p o) (upd H p o) rh mu ∧ Ext Hs H rh (upd Hs p o) (upd H p o) rh ∧ Same Hs (upd Hs p o) := by
  have hsp : Hs p = none := s.same.free hp
  have sm : Same Hs (upd Hs p o) := fun b u e => by rw [upd_ne (ne_of_none e hsp)]; exact e
  refine ⟨⟨fun b u e => ?_, s.mlen, fun n c e => ?_, s.nd, fun a ha => ?_⟩, ⟨sm, List.prefix_refl _, fun b u e _ => by rw [upd_ne (ne_of_none e hp)]; exact e, fun b hb => ?_, fun b hb => .inl hb, fun b hb => ?_⟩, sm⟩
  · by_cases hb : b = p
    · subst hb
      rw [upd_same] at e ⊢
      exact e
    · rw [upd_ne hb] at e ⊢
      exact s.same b u e
  · obtain ⟨a, u, e1, e2, e3, e4⟩ := s.cell n c e
    have ne : a ≠ p := ne_of_none e3 hp
    exact ⟨a, u, e1, by rw [upd_ne ne]; exact e2, by rw [upd_ne ne]; exact e3, e4.mono sm (List.prefix_refl _)⟩
  · by_cases hb : a = p
    · rw [hb, upd_same]
      exact fun z => nomatch z
    · rw [upd_ne hb]
      exact s.old a ha
  · by_cases hq : b = p
    · rw [hq, upd_same]
      exact fun z => nomatch z
    · rw [upd_ne hq]
      exact hb
  · by_cases hq : b = p
    · exact .inr (.inl (by rw [hq]; exact hp))
    · rw [upd_ne hq] at hb
      exact .inl hb
theorem SR.ext (s : SR K Hs H rh sg et mu) (x : Ext Hs H rh Hs1 H1 rh1) (c : SC K Hs1 H1 rh1 mu1) : SR K Hs1 H1 rh1 sg et mu1 :=
  ⟨c, s.len, fun i d e => let ⟨v, e1, e2⟩ := s.val i d e; ⟨v, e1, e2.ext x⟩⟩
/-- what a part that knows no cells has done -/
theorem SC.frame (s : SC K Hs H rh mu) (a : Same Hs Hs1) (b : Same Hs1 H1) (c : Same H H1) (f : ∀ b, Hs1 b ≠ none → Hs b ≠ none ∨ H b = none) : SC K Hs1 H1 rh mu ∧ Ext Hs H rh Hs1 H1 rh := by
  refine ⟨⟨b, s.mlen, fun n d e => ?_, s.nd, fun x hx z => ?_⟩, ⟨a, List.prefix_refl _, fun x o e _ => c x o e, fun x hx z => ?_, fun _ h => .inl h, fun x hx => (f x hx).elim .inl fun z => .inr (.inl z)⟩⟩
  · obtain ⟨x, u, e1, e2, e3, e4⟩ := s.cell n d e
    refine ⟨x, u, e1, ?_, c x u e3, e4.mono a (List.prefix_refl _)⟩
    cases q : Hs1 x with
    | none => rfl
    | some o =>
      rcases f x (by rw [q]; exact fun z => nomatch z) with z | z
      · exact absurd e2 z
      · rw [z] at e3
        cases e3
  · cases q : H x with
    | none => exact s.old x hx q
    | some o => rw [c x o q] at z; cases z
  · cases q : H x with
    | none => exact hx q
    | some o => rw [c x o q] at z; cases z
/-- a new cell -/
theorem SC.newCell (s : SC K Hs H rh mu) {p : Addr} {o : HO} {c : Ce} (hp : H p = none) (r : RepO K Hs rh p c o) : SC K Hs (upd H p o) (rh ++ [p]) (mu ++ [some c]) ∧ Ext Hs H rh Hs (upd H p o) (rh ++ [p]) ∧ (rh ++ [p])[mu.length]? = some p := by
  have hsp : Hs p = none := s.same.free hp
  have hn : p ∉ rh := fun z => s.old p z hp
  have pf : rh <+: rh ++ [p] := List.prefix_append _ _
  refine ⟨⟨fun b u e => by rw [upd_ne (ne_of_none (s.same b u e) hp)]; exact s.same b u e, by rw [List.length_append, List.length_append, s.mlen]; rfl, fun n d e => ?_, ?_, fun a ha => ?_⟩, ⟨.refl _, pf, fun b u e _ => by rw [upd_ne (ne_of_none e hp)]; exact e, fun b hb => ?_, fun b hb => ?_, fun b hb => .inl hb⟩, by rw [s.mlen]; simp⟩
  · by_cases hn2 : n < mu.length
    · rw [List.getElem?_append_left hn2] at e
      obtain ⟨a, u, e1, e2, e3, e4⟩ := s.cell n d e
      exact ⟨a, u, by rw [List.getElem?_append_left (by rw [← s.mlen]; exact hn2)]; exact e1, e2, by rw [upd_ne (ne_of_none e3 hp)]; exact e3, e4.mono (.refl _) pf⟩
    · have hl : n = mu.length := by
        have q := (List.getElem?_eq_some_iff.mp e).1
        rw [List.length_append, List.length_singleton] at q
        omega
      subst hl
      rw [List.getElem?_concat_length] at e
      cases e
      exact ⟨p, o, by rw [s.mlen]; simp, hsp, upd_same, r.mono (.refl _) pf⟩
  · rw [List.nodup_append]
    exact ⟨s.nd, by simp, fun a ha b hb z => hn (by simp at hb; rw [← hb, ← z]; exact ha)⟩
  · by_cases hb : a = p
    · rw [hb, upd_same]
      exact fun z => nomatch z
    · rw [upd_ne hb]
      rcases List.mem_append.mp ha with z | z
      · exact s.old a z
      · exact absurd (by simpa using z) hb
  · by_cases hq : b = p
    · rw [hq, upd_same]
      exact fun z => nomatch z
    · rw [upd_ne hq]
      exact hb
  · rcases List.mem_append.mp hb with z | z
    · exact .inl z
    · have e : b = p := by simpa using z
      exact .inr (by rw [e]; exact hp)
/-- a cell is written -/
theorem SC.write (s : SC K Hs H rh mu) {n : Nat} {p : Addr} {o : HO} {c c0 : Ce} (hl : mu[n]? = some (some c0)) (hn : rh[n]? = some p) (r : RepO K Hs rh p c o) : SC K Hs (upd H p o) rh (mu.set n (some c)) ∧ Ext Hs H rh Hs (upd H p o) rh := by
  obtain ⟨a0, o0, e1, e2, e3, e4⟩ := s.cell n c0 hl
  rw [hn] at e1
  cases e1
  have hm : p ∈ rh := List.mem_of_getElem? hn
  have nl : n < mu.length := (List.getElem?_eq_some_iff.mp hl).1
  refine ⟨⟨fun b u e => by rw [upd_ne (ne_of_none e e2)]; exact s.same b u e, by rw [List.length_set]; exact s.mlen, fun m d e => ?_, s.nd, fun a ha => ?_⟩, ⟨.refl _, List.prefix_refl _, fun b u e hb => by rw [upd_ne (fun z => hb (by rw [z]; exact hm))]; exact e, fun b hb => ?_, fun b hb => .inl hb, fun b hb => .inl hb⟩⟩
  · by_cases hmn : n = m
    · subst hmn
      rw [List.getElem?_set_self nl] at e
      cases e
      exact ⟨p, o, hn, e2, upd_same, r⟩
    · rw [List.getElem?_set_ne hmn] at e
      obtain ⟨a, u, e1, e5, e6, e7⟩ := s.cell m d e
      have ne : a ≠ p := fun z => hmn (by
        subst z
        obtain ⟨h1, q1⟩ := List.getElem?_eq_some_iff.mp hn
        obtain ⟨h2, q2⟩ := List.getElem?_eq_some_iff.mp e1
        exact (List.getElem_inj s.nd).mp (q1.trans q2.symm))
      exact ⟨a, u, e1, e5, by rw [upd_ne ne]; exact e6, e7⟩
  · by_cases hb : a = p
    · rw [hb, upd_same]
      exact fun z => nomatch z
    · rw [upd_ne hb]
      exact s.old a ha
  · by_cases hq : b = p
    · rw [hq, upd_same]
      exact fun z => nomatch z
    · rw [upd_ne hq]
      exact hb
end
end DL
set_option maxHeartbeats 4000000
namespace DL
open PySem PySem.Spec PyProof.Rows L2
/-! ## Judgements -/
abbrev St2 := L2.St
section
variable (K : PySem.W.Frag) (W : WX)
def Post {a b : Type} (Rel : Hp → Hp → List Addr → a → b → Prop) (Hs H : Hp) (rh : List Addr) (sg : St2) (et : Env) (Q : b → Hp → Prop) : R a → Prop
  | .ok d m => ∀ v Hs' H' rh', Ext Hs H rh Hs' H' rh' → SR K Hs' H' rh' sg et m → Rel Hs' H' rh' d v → Q v H'
  | .exc c d m => ∀ dx v Hs' H' rh', Ext Hs H rh Hs' H' rh' → SR K Hs' H' rh' sg et m → XdAt H Hs' H' rh' dx v → Rep K Hs' d v → W (.ref (cA K c)) (some dx) sg H'
  | .stuck => False
def PostS (Hs H : Hp) (rh : List Addr) (Dn : Ends) : RS → Prop
  | .nx e m => ∀ sg' Hs' H' rh', Ext Hs H rh Hs' H' rh' → SR K Hs' H' rh' sg' e m → Dn.nx sg' H'
  | .brk e m => ∀ sg' Hs' H' rh', Ext Hs H rh Hs' H' rh' → SR K Hs' H' rh' sg' e m → Dn.bk sg' H'
  | .cnt e m => ∀ sg' Hs' H' rh', Ext Hs H rh Hs' H' rh' → SR K Hs' H' rh' sg' e m → Dn.ct sg' H'
  | .ret x e m => ∀ v sg' Hs' H' rh', Ext Hs H rh Hs' H' rh' → SR K Hs' H' rh' sg' e m → RepA K Hs' rh' x v → Dn.rt v H'
  | .exc c d e m => ∀ dx v sg' Hs' H' rh', Ext Hs H rh Hs' H' rh' → SR K Hs' H' rh' sg' e m → XdAt H Hs' H' rh' dx v → Rep K Hs' d v → W (.ref (cA K c)) (some dx) sg' H'
  | .stuck => False
abbrev RlA : Hp → Hp → List Addr → Va → V → Prop := fun Hs _ rh d v => RepA K Hs rh d v
abbrev RlAs : Hp → Hp → List Addr → List Va → List V → Prop := fun Hs _ rh d v => RepAs K Hs rh d v
abbrev RlB : Hp → Hp → List Addr → Bool → Bool → Prop := fun _ _ _ a b => a = b
/-- a fresh list, held by nobody -/
abbrev RlF (H : Hp) : Hp → Hp → List Addr → List D → V → Prop := fun Hs' H' rh' ds v => ∃ p vs, v = .ref p ∧ H p = none ∧ Hs' p = none ∧ p ∉ rh' ∧ H' p = some (.lst vs) ∧ Reps K Hs' ds vs
end
section
variable {K : PySem.W.Frag} {W : WX} {a b c e : Type} {Rel : Hp → Hp → List Addr → a → b → Prop} {Rel2 : Hp → Hp → List Addr → c → e → Prop} {Hs H Hs1 H1 : Hp} {rh rh1 : List Addr} {sg : St2} {et : Env} {Q : b → Hp → Prop} {Q2 : e → Hp → Prop} {Dn : Ends}
theorem Post.ext (x : Ext Hs H rh Hs1 H1 rh1) : ∀ {r : R a}, Post K W Rel Hs H rh sg et Q r → Post K W Rel Hs1 H1 rh1 sg et Q r
  | .ok d m, h => fun v Hs' H' rh' y s r => h v Hs' H' rh' (x.trans y) s r
  | .exc c d m, h => fun dx v Hs' H' rh' y s q r => h dx v Hs' H' rh' (x.trans y) s (q.base x) r
  | .stuck, h => h.elim
theorem PostS.ext (x : Ext Hs H rh Hs1 H1 rh1) : ∀ {r : RS}, PostS K W Hs H rh Dn r → PostS K W Hs1 H1 rh1 Dn r
  | .nx _ _, h => fun sg' Hs' H' rh' y s => h sg' Hs' H' rh' (x.trans y) s
  | .brk _ _, h => fun sg' Hs' H' rh' y s => h sg' Hs' H' rh' (x.trans y) s
  | .cnt _ _, h => fun sg' Hs' H' rh' y s => h sg' Hs' H' rh' (x.trans y) s
  | .ret _ _ _, h => fun v sg' Hs' H' rh' y s r => h v sg' Hs' H' rh' (x.trans y) s r
  | .exc _ _ _ _, h => fun dx v sg' Hs' H' rh' y s q r => h dx v sg' Hs' H' rh' (x.trans y) s (q.base x) r
  | .stuck, h => h.elim
theorem Post.step {f : R a} {g : a → Mu → R c} (h : Post K W Rel2 Hs H rh sg et Q2 (f.bind g))
    (k : ∀ d m v Hs1 H1 rh1, Ext Hs H rh Hs1 H1 rh1 → SR K Hs1 H1 rh1 sg et m → Rel Hs1 H1 rh1 d v → Post K W Rel2 Hs1 H1 rh1 sg et Q2 (g d m) → Q v H1) : Post K W Rel Hs H rh sg et Q f := by
  cases f with
  | ok d m => exact fun v Hs' H' rh' y s r => k d m v Hs' H' rh' y s r (Post.ext y h)
  | exc c d m => exact h
  | stuck => exact h
theorem Post.stepS {f : R a} {g : a → Mu → R c} (h : Post K W Rel2 Hs H rh sg et Q2 (f.bind g))
    (k : ∀ d m v Hs1 H1 rh1, Ext Hs H rh Hs1 H1 rh1 → SR K Hs1 H1 rh1 sg et m → Rel Hs1 H1 rh1 d v → Post K W Rel2 Hs H rh sg et Q2 (g d m) → Q v H1) : Post K W Rel Hs H rh sg et Q f := by
  cases f with
  | ok d m => exact fun v Hs' H' rh' y s r => k d m v Hs' H' rh' y s r h
  | exc c d m => exact h
  | stuck => exact h
theorem Post.toS {f : R Va} {g : Va → Mu → RS} {Q : V → Hp → Prop} (s0 : SR K Hs H rh sg et mu0) (h : PostS K W Hs H rh Dn (f.toS et g))
    (k : ∀ d m v Hs1 H1 rh1, Ext Hs H rh Hs1 H1 rh1 → SR K Hs1 H1 rh1 sg et m → RepA K Hs1 rh1 d v → PostS K W Hs1 H1 rh1 Dn (g d m) → Q v H1) : Post K W (RlA K) Hs H rh sg et Q f := by
  cases f with
  | ok d m => exact fun v Hs' H' rh' y s r => k d m v Hs' H' rh' y s r (PostS.ext y h)
  | exc c d m => exact fun dx v Hs' H' rh' y s q r => h dx v sg Hs' H' rh' y s q r
  | stuck => exact h
theorem Post.ok_ {d : a} {m : Mu} {v : b} (h : Post K W Rel Hs H rh sg et Q (.ok d m)) (x : Ext Hs H rh Hs1 H1 rh1) (s : SR K Hs1 H1 rh1 sg et m) (r : Rel Hs1 H1 rh1 d v) : Q v H1 := h v Hs1 H1 rh1 x s r
end
/-- what is wanted behind a target's store -/
def PostG (K : PySem.W.Frag) (Hs H : Hp) (rh : List Addr) (Q : St2 → Hp → Prop) : RS → Prop
  | .nx e m => ∀ sg' Hs' H' rh', Ext Hs H rh Hs' H' rh' → SR K Hs' H' rh' sg' e m → Q sg' H'
  | _ => False
section
variable (X : Cx) (W : WX)
def SE (e : Expr) (f : Env → Mu → R Va) : Prop := ∃ t, PE X e t ∧ ∀ Hs H rh sg et m Q, SR X.K Hs H rh sg et m → Post X.K W (RlA X.K) Hs H rh sg et Q (f et m) → t sg H Q
def SF (e : Expr) (f : Env → Mu → R (List D)) : Prop := ∃ t, PE X e t ∧ ∀ Hs H rh sg et m Q, SR X.K Hs H rh sg et m → Post X.K W (RlF X.K H) Hs H rh sg et Q (f et m) → t sg H Q
def SA (es : List Expr) (f : Env → Mu → R (List Va)) : Prop := ∃ t, PA X es t ∧ ∀ Hs H rh sg et m Q, SR X.K Hs H rh sg et m → Post X.K W (RlAs X.K) Hs H rh sg et Q (f et m) → t sg H Q
def ST (e : Expr) (f : Env → Mu → R Bool) : Prop := ∃ t, PT X e t ∧ ∀ Hs H rh sg et m Q, SR X.K Hs H rh sg et m → Post X.K W RlB Hs H rh sg et Q (f et m) → t sg H Q
def SWt (e : Expr) (f : Env → Mu → R Bool) : Prop := ∃ t, PW X e t ∧ ∀ Hs H rh sg et m Q, SR X.K Hs H rh sg et m → Post X.K W RlB Hs H rh sg et Q (f et m) → t sg H Q
def SS (st : Stmt) (f : Env → Mu → RS) : Prop := ∃ t, PS X st t ∧ ∀ Hs H rh sg et m Dn, SR X.K Hs H rh sg et m → PostS X.K W Hs H rh Dn (f et m) → t Dn sg H
def SB (sts : List Stmt) (f : Env → Mu → RS) : Prop := ∃ t, PSs X sts t ∧ ∀ Hs H rh sg et m Dn, SR X.K Hs H rh sg et m → PostS X.K W Hs H rh Dn (f et m) → t Dn sg H
/-- a target -/
def SG (e : Expr) (f : Va → Env → Mu → RS) : Prop := ∃ t, PG X e t ∧ ∀ Hs H rh sg et m x v (Q : St2 → Hp → Prop), SR X.K Hs H rh sg et m → RepA X.K Hs rh x v → PostG X.K Hs H rh Q (f x et m) → t v sg H Q
end
/-! ### leaves -/
@[simp] def xVar (i : Nat) : Env → Mu → R Va := fun et m => match et[i]? with
  | some (some d) => .ok d m
  | _ => .stuck
@[simp] def xC (d : D) : Env → Mu → R Va := fun _ m => .ok (.d d) m
section
variable {X : Cx} {W : WX}
theorem se_pe {e : Expr} {i : Nat} (h : PE X e (tVar i)) : SE X W e (xVar i) := by
  refine ⟨_, h, fun Hs H rh sg et m Q s p => ?_⟩
  unfold xVar at p
  cases q : et[i]? with
  | none => rw [q] at p; exact p.elim
  | some o =>
    rw [q] at p
    cases o with
    | none => exact p.elim
    | some d =>
      obtain ⟨v, e1, e2⟩ := s.val i d q
      exact ⟨v, e1, Post.ok_ p .refl s e2⟩
theorem se_var (i : Nat) {x : Str} {pos : Pos} (hN : X.N[i]? = some x) (hv : Vis X.env.scope x) (hd : (x == ("__debug__" : Str)) = false := by decide) (hcd : (x == ("__classdict__" : Str)) = false := by decide) : SE X W (.Name x pos) (xVar i) := se_pe (pe_var hN hv hd hcd)
theorem se_c {e : Expr} {v : V} {d : D} (h : PE X e (tC v)) (r : ∀ Hs, Rep X.K Hs d v) : SE X W e (xC d) := ⟨_, h, fun Hs H rh sg et m Q s p => Post.ok_ p .refl s (r Hs)⟩
theorem se_int {i : Int} {j pos} : SE X W (.Constant (.int i) j pos) (xC (.int i)) := se_c pe_int fun _ => by simp only [Rep]
theorem se_bl {i : Bool} {j pos} : SE X W (.Constant (.bool i) j pos) (xC (.bl i)) := se_c pe_bl fun _ => by simp only [Rep]
theorem se_non {j pos} : SE X W (.Constant .none j pos) (xC .non) := se_c pe_non fun _ => by simp only [Rep]
theorem se_str {x : Str} {j pos} : SE X W (.Constant (.str x) j pos) (xC (.str x)) := se_c pe_str fun _ => by simp only [Rep]
theorem se_glob {x : Str} {v : V} {u : Value} {d : D} {pos : Pos} (hg : Gl X x) (hm : X.mg x = some u) (r : RelV v u) (rp : ∀ Hs, Rep X.K Hs d v) (hd : (x == ("__debug__" : Str)) = false := by decide) : SE X W (.Name x pos) (xC d) := se_c (pe_glob hg hm r hd) rp
/-! ### arguments -/
@[simp] def xNil : Env → Mu → R (List Va) := fun _ m => .ok [] m
def xCons (f : Env → Mu → R Va) (g : Env → Mu → R (List Va)) : Env → Mu → R (List Va) := fun et m => (f et m).bind fun d m => (g et m).bind fun ds m => .ok (d :: ds) m
theorem sa_nil : SA X W [] xNil := ⟨_, pa_nil, fun Hs H rh sg et m Q s p => Post.ok_ p .refl s rfl⟩
theorem sa_cons {e : Expr} {es : List Expr} {f : Env → Mu → R Va} {g : Env → Mu → R (List Va)} (hf : SE X W e f) (hg : SA X W es g) (hs : starEach (e :: es) X.env = (false, eval e X.env) :: starEach es X.env := by rfl) : SA X W (e :: es) (xCons f g) := by
  obtain ⟨t, h, r⟩ := hf
  obtain ⟨t', h', r'⟩ := hg
  refine ⟨_, pa_cons h h' hs, fun Hs H rh sg et m Q s p => ?_⟩
  unfold xCons at p
  refine r Hs H rh sg et m _ s (Post.step p fun d m1 v Hs1 H1 rh1 x1 s1 r1 p1 => ?_)
  refine r' Hs1 H1 rh1 sg et m1 _ s1 (Post.step p1 fun ds m2 vs Hs2 H2 rh2 x2 s2 r2 p2 => ?_)
  exact Post.ok_ p2 .refl s2 ⟨v, vs, rfl, r1.ext x2, r2⟩
/-! ### operators by rules -/
/-- a binary rule: the mirror o -/
def OpS (X : Cx) (f : Value → Value → Sem Value) (o : Va → Va → Mu → R Va) : Prop := ∃ r, OpR X f r ∧ ∀ W Hs H rh sg et m x y u v Q, SR X.K Hs H rh sg et m → RepA X.K Hs rh x u → RepA X.K Hs rh y v → Post X.K W (RlA X.K) Hs H rh sg et Q (o x y m) → r u v H Q
def xBin (o : Va → Va → Mu → R Va) (f g : Env → Mu → R Va) : Env → Mu → R Va := fun et m => (f et m).bind fun x m => (g et m).bind fun y m => o x y m
variable {a b e : Expr} {pos : Pos} {f g : Env → Mu → R Va} {o : Va → Va → Mu → R Va}
theorem bin_read {ta tb : TE} {r : V → V → Hp → VK → Prop} (ra : ∀ Hs H rh sg et m Q, SR X.K Hs H rh sg et m → Post X.K W (RlA X.K) Hs H rh sg et Q (f et m) → ta sg H Q) (rb : ∀ Hs H rh sg et m Q, SR X.K Hs H rh sg et m → Post X.K W (RlA X.K) Hs H rh sg et Q (g et m) → tb sg H Q)
    {Hs H : Hp} {rh : List Addr} {sg : St2} {et : Env} {m : Mu} {Q : VK} (s : SR X.K Hs H rh sg et m) (ro : ∀ W Hs H rh sg et m x y u v Q, SR X.K Hs H rh sg et m → RepA X.K Hs rh x u → RepA X.K Hs rh y v → Post X.K W (RlA X.K) Hs H rh sg et Q (o x y m) → r u v H Q) (p : Post X.K W (RlA X.K) Hs H rh sg et Q (xBin o f g et m)) : ta sg H fun x H1 => tb sg H1 fun y H2 => r x y H2 Q := by
  unfold xBin at p
  refine ra Hs H rh sg et m _ s (Post.step p fun x m1 u Hs1 H1 rh1 x1 s1 r1 p1 => ?_)
  refine rb Hs1 H1 rh1 sg et m1 _ s1 (Post.step p1 fun y m2 v Hs2 H2 rh2 x2 s2 r2 p2 => ?_)
  exact ro W Hs2 H2 rh2 sg et m2 x y u v Q s2 (r1.ext x2) r2 p2
theorem se_op {op : Operator} (ho : OpS X (binaryOp op) o) (ha : SE X W a f) (hb : SE X W b g) : SE X W (.BinOp a op b pos) (xBin o f g) := by
  obtain ⟨r, h, ro⟩ := ho
  obtain ⟨ta, ha, ra⟩ := ha
  obtain ⟨tb, hb, rb⟩ := hb
  exact ⟨_, pe_op h ha hb, fun Hs H rh sg et m Q s p => bin_read (r := r) ra rb s ro p⟩
theorem se_cmp {op : CmpOp} (ho : OpS X (compareOp op) o) (ha : SE X W a f) (hb : SE X W b g) (hm : behindInMarks op b = false) : SE X W (.Compare a [op] [b] pos) (xBin o f g) := by
  obtain ⟨r, h, ro⟩ := ho
  obtain ⟨ta, ha, ra⟩ := ha
  obtain ⟨tb, hb, rb⟩ := hb
  exact ⟨_, pe_cmpR h ha hb hm, fun Hs H rh sg et m Q s p => bin_read (r := r) ra rb s ro p⟩
/-- a value that is a truth value -/
@[simp] def toB : Va → Mu → R Bool := fun x m => match x with
  | .d (.bl b) => .ok b m
  | _ => .stuck
@[simp] def xTst (f : Env → Mu → R Va) : Env → Mu → R Bool := fun et m => (f et m).bind toB
theorem rep_bl {K : PySem.W.Frag} {H : Hp} {b : Bool} {v : V} (h : Rep K H (.bl b) v) : v = .bl b := by simpa only [Rep] using h
theorem rep_int {K : PySem.W.Frag} {H : Hp} {b : Int} {v : V} (h : Rep K H (.int b) v) : v = .int b := by simpa only [Rep] using h
theorem rep_str {K : PySem.W.Frag} {H : Hp} {b : Str} {v : V} (h : Rep K H (.str b) v) : v = .str b := by simpa only [Rep] using h
theorem rep_non {K : PySem.W.Frag} {H : Hp} {v : V} (h : Rep K H .non v) : v = .non := by simpa only [Rep] using h
theorem rbl (K : PySem.W.Frag) (H : Hp) (b : Bool) : Rep K H (.bl b) (.bl b) := by simp only [Rep]
theorem rint (K : PySem.W.Frag) (H : Hp) (b : Int) : Rep K H (.int b) (.int b) := by simp only [Rep]
theorem rstr (K : PySem.W.Frag) (H : Hp) (b : Str) : Rep K H (.str b) (.str b) := by simp only [Rep]
theorem rnon (K : PySem.W.Frag) (H : Hp) : Rep K H .non .non := by simp only [Rep]
theorem va_bl {K : PySem.W.Frag} {H : Hp} {rh : List Addr} {b : Bool} {v : V} (h : RepA K H rh (.d (.bl b)) v) : v = .bl b := rep_bl (K := K) (H := H) h
theorem va_int {K : PySem.W.Frag} {H : Hp} {rh : List Addr} {b : Int} {v : V} (h : RepA K H rh (.d (.int b)) v) : v = .int b := rep_int (K := K) (H := H) h
theorem va_str {K : PySem.W.Frag} {H : Hp} {rh : List Addr} {b : Str} {v : V} (h : RepA K H rh (.d (.str b)) v) : v = .str b := rep_str (K := K) (H := H) h
theorem va_non {K : PySem.W.Frag} {H : Hp} {rh : List Addr} {v : V} (h : RepA K H rh (.d .non) v) : v = .non := rep_non (K := K) (H := H) h
theorem mk_bl {K : PySem.W.Frag} {H : Hp} {rh : List Addr} {b : Bool} : RepA K H rh (.d (.bl b)) (.bl b) := rbl K H b
theorem mk_int {K : PySem.W.Frag} {H : Hp} {rh : List Addr} {b : Int} : RepA K H rh (.d (.int b)) (.int b) := rint K H b
theorem mk_str {K : PySem.W.Frag} {H : Hp} {rh : List Addr} {b : Str} : RepA K H rh (.d (.str b)) (.str b) := rstr K H b
theorem mk_non {K : PySem.W.Frag} {H : Hp} {rh : List Addr} : RepA K H rh (.d .non) .non := rnon K H
theorem toB_read {te : TE} (re : ∀ Hs H rh sg et m Q, SR X.K Hs H rh sg et m → Post X.K W (RlA X.K) Hs H rh sg et Q (f et m) → te sg H Q) {Hs H : Hp} {rh : List Addr} {sg : St2} {et : Env} {m : Mu} {Q : Bool → Hp → Prop} (s : SR X.K Hs H rh sg et m) (p : Post X.K W RlB Hs H rh sg et Q (xTst f et m)) : te sg H fun x H1 => ∃ c, x = .bl c ∧ Q c H1 := by
  unfold xTst at p
  refine re Hs H rh sg et m _ s (Post.step p fun x m1 u Hs1 H1 rh1 x1 s1 r1 p1 => ?_)
  unfold toB at p1
  split at p1
  · exact ⟨_, va_bl r1, Post.ok_ p1 .refl s1 rfl⟩
  · exact p1.elim
theorem st_cmp {op : CmpOp} (ho : OpS X (compareOp op) o) (ha : SE X W a f) (hb : SE X W b g) (hm : behindInMarks op b = false) : ST X W (.Compare a [op] [b] pos) (xTst (xBin o f g)) := by
  obtain ⟨r, h, ro⟩ := ho
  obtain ⟨ta, ha, ra⟩ := ha
  obtain ⟨tb, hb, rb⟩ := hb
  exact ⟨_, pt_cmpR h ha hb hm, fun Hs H rh sg et m Q s p => toB_read (W := W) (te := tOp r ta tb) (f := xBin o f g) (fun Hs H rh sg et m Q s p => bin_read (r := r) ra rb s ro p) s p⟩
theorem st_val (he : SE X W e f) (hx : ∀ whole, isTrue e X.env whole = (do let v ← whole; standAt e.pos; holding [v] (truthy v)) := by intro _; rfl) : ST X W e (xTst f) := by
  obtain ⟨te, h, r⟩ := he
  exact ⟨_, pt_val h hx, fun Hs H rh sg et m Q s p => toB_read r s p⟩
variable {p q : Env → Mu → R Bool} {rest : List Expr}
def xNotT (p : Env → Mu → R Bool) : Env → Mu → R Bool := fun et m => (p et m).bind fun b m => .ok (!b) m
theorem st_not (h : ST X W a p) : ST X W (.UnaryOp .Not a pos) (xNotT p) := by
  obtain ⟨t, h, r⟩ := h
  refine ⟨_, pt_not h, fun Hs H rh sg et m Q s z => r Hs H rh sg et m _ s (Post.step z fun d m1 v Hs1 H1 rh1 x1 s1 r1 p1 => ?_)⟩
  have e : d = v := r1
  subst e
  exact Post.ok_ p1 .refl s1 rfl
def xAndT (p q : Env → Mu → R Bool) : Env → Mu → R Bool := fun et m => (p et m).bind fun b m => if b = true then q et m else .ok false m
def xOrT (p q : Env → Mu → R Bool) : Env → Mu → R Bool := fun et m => (p et m).bind fun b m => if b = true then .ok true m else q et m
theorem sw_st (h : SWt X W a p) : ST X W a p := let ⟨t, h, r⟩ := h; ⟨t, h.pt, r⟩
theorem sw_and1 (h : ST X W a p) : SWt X W (.BoolOp .And [a] pos) p := let ⟨t, h, r⟩ := h; ⟨t, pw_and1 h, r⟩
theorem sw_or1 (h : ST X W a p) : SWt X W (.BoolOp .Or [a] pos) p := let ⟨t, h, r⟩ := h; ⟨t, pw_or1 h, r⟩
theorem sw_and (ha : ST X W a p) (hb : SWt X W (.BoolOp .And (b :: rest) pos) q) : SWt X W (.BoolOp .And (a :: b :: rest) pos) (xAndT p q) := by
  obtain ⟨ta, ha, ra⟩ := ha
  obtain ⟨tb, hb, rb⟩ := hb
  refine ⟨_, pw_and ha hb, fun Hs H rh sg et m Q s z => ra Hs H rh sg et m _ s (Post.step z fun d m1 v Hs1 H1 rh1 x1 s1 r1 p1 => ?_)⟩
  have e : d = v := r1
  subst e
  cases d with
  | true => exact iteT (rb Hs1 H1 rh1 sg et m1 Q s1 (by simpa using p1))
  | false => exact iteF (Post.ok_ (by simpa using p1) .refl s1 rfl)
theorem sw_or (ha : ST X W a p) (hb : SWt X W (.BoolOp .Or (b :: rest) pos) q) : SWt X W (.BoolOp .Or (a :: b :: rest) pos) (xOrT p q) := by
  obtain ⟨ta, ha, ra⟩ := ha
  obtain ⟨tb, hb, rb⟩ := hb
  refine ⟨_, pw_or ha hb, fun Hs H rh sg et m Q s z => ra Hs H rh sg et m _ s (Post.step z fun d m1 v Hs1 H1 rh1 x1 s1 r1 p1 => ?_)⟩
  have e : d = v := r1
  subst e
  cases d with
  | true => exact iteT (Post.ok_ (by simpa using p1) .refl s1 rfl)
  | false => exact iteF (rb Hs1 H1 rh1 sg et m1 Q s1 (by simpa using p1))
/-! as values -/
def xNot (f : Env → Mu → R Va) : Env → Mu → R Va := fun et m => (f et m).bind fun x m => (toB x m).bind fun b m => .ok (.d (.bl (!b))) m
def xAnd (f g : Env → Mu → R Va) : Env → Mu → R Va := fun et m => (f et m).bind fun x m => (toB x m).bind fun b m => if b = true then g et m else .ok (.d (.bl false)) m
def xOr (f g : Env → Mu → R Va) : Env → Mu → R Va := fun et m => (f et m).bind fun x m => (toB x m).bind fun b m => if b = true then .ok (.d (.bl true)) m else g et m
theorem toB_cases {x : Va} {m : Mu} : (∃ b, x = .d (.bl b) ∧ toB x m = .ok b m) ∨ toB x m = .stuck := by
  unfold toB
  split
  · exact .inl ⟨_, rfl, rfl⟩
  · exact .inr rfl
theorem se_not (h : SE X W a f) : SE X W (.UnaryOp .Not a pos) (xNot f) := by
  obtain ⟨t, h, r⟩ := h
  refine ⟨_, pe_not h, fun Hs H rh sg et m Q s z => r Hs H rh sg et m _ s (Post.step z fun d m1 v Hs1 H1 rh1 x1 s1 r1 p1 => ?_)⟩
  rcases toB_cases (x := d) (m := m1) with ⟨b, rfl, e⟩ | e
  · rw [e] at p1
    exact ⟨b, va_bl r1, Post.ok_ p1 .refl s1 mk_bl⟩
  · rw [e] at p1
    exact p1.elim
theorem se_one {op} (h : SE X W a f) : SE X W (.BoolOp op [a] pos) f := let ⟨t, h, r⟩ := h; ⟨t, pe_one h, r⟩
theorem se_and (ha : SE X W a f) (hb : SE X W (.BoolOp .And (b :: rest) pos) g) : SE X W (.BoolOp .And (a :: b :: rest) pos) (xAnd f g) := by
  obtain ⟨ta, ha, ra⟩ := ha
  obtain ⟨tb, hb, rb⟩ := hb
  refine ⟨_, pe_and ha hb, fun Hs H rh sg et m Q s z => ra Hs H rh sg et m _ s (Post.step z fun d m1 v Hs1 H1 rh1 x1 s1 r1 p1 => ?_)⟩
  rcases toB_cases (x := d) (m := m1) with ⟨b, rfl, e⟩ | e
  · rw [e] at p1
    refine ⟨b, va_bl r1, ?_⟩
    cases b with
    | true => exact iteT (rb Hs1 H1 rh1 sg et m1 Q s1 (by simpa [R.bind] using p1))
    | false => exact iteF (Post.ok_ (m := m1) (d := Va.d (.bl false)) (by simpa [R.bind] using p1) .refl s1 mk_bl)
  · rw [e] at p1
    exact p1.elim
theorem se_or (ha : SE X W a f) (hb : SE X W (.BoolOp .Or (b :: rest) pos) g) : SE X W (.BoolOp .Or (a :: b :: rest) pos) (xOr f g) := by
  obtain ⟨ta, ha, ra⟩ := ha
  obtain ⟨tb, hb, rb⟩ := hb
  refine ⟨_, pe_or ha hb, fun Hs H rh sg et m Q s z => ra Hs H rh sg et m _ s (Post.step z fun d m1 v Hs1 H1 rh1 x1 s1 r1 p1 => ?_)⟩
  rcases toB_cases (x := d) (m := m1) with ⟨b, rfl, e⟩ | e
  · rw [e] at p1
    refine ⟨b, va_bl r1, ?_⟩
    cases b with
    | true => exact iteT (Post.ok_ (m := m1) (d := Va.d (.bl true)) (by simpa [R.bind] using p1) .refl s1 mk_bl)
    | false => exact iteF (rb Hs1 H1 rh1 sg et m1 Q s1 (by simpa [R.bind] using p1))
  · rw [e] at p1
    exact p1.elim
def xIf (p : Env → Mu → R Bool) (f g : Env → Mu → R Va) : Env → Mu → R Va := fun et m => (p et m).bind fun b m => if b = true then f et m else g et m
theorem se_if {c : Expr} (hc : ST X W c p) (ha : SE X W a f) (hb : SE X W b g) : SE X W (.IfExp c a b pos) (xIf p f g) := by
  obtain ⟨tc, hc, rc⟩ := hc
  obtain ⟨ta, ha, ra⟩ := ha
  obtain ⟨tb, hb, rb⟩ := hb
  refine ⟨_, pe_ifExp hc ha hb, fun Hs H rh sg et m Q s z => rc Hs H rh sg et m _ s (Post.step z fun d m1 v Hs1 H1 rh1 x1 s1 r1 p1 => ?_)⟩
  have e : d = v := r1
  subst e
  cases d with
  | true => exact iteT (ra Hs1 H1 rh1 sg et m1 Q s1 (by simpa using p1))
  | false => exact iteF (rb Hs1 H1 rh1 sg et m1 Q s1 (by simpa using p1))
end
/-! ### statements -/
section
variable {X : Cx} {W : WX} {a b e : Expr} {pos : Pos} {f g : Env → Mu → R Va} {p : Env → Mu → R Bool} {st : Stmt} {sts sts' : List Stmt} {u v : Env → Mu → RS}
@[simp] def zNil : Env → Mu → RS := fun e m => .nx e m
@[simp] def zSeq (u v : Env → Mu → RS) : Env → Mu → RS := fun e m => (u e m).thn v
theorem sb_nil : SB X W [] zNil := ⟨_, pss_nil, fun Hs H rh sg et m Dn s z => z sg Hs H rh .refl s⟩
theorem sb_one (h : SS X W st u) : SB X W [st] u := let ⟨t, h, r⟩ := h; ⟨t, pss_one h, r⟩
theorem sb_cons (h1 : SS X W st u) (h2 : SB X W sts v) : SB X W (st :: sts) (zSeq u v) := by
  obtain ⟨t, h, r⟩ := h1
  obtain ⟨t', h', r'⟩ := h2
  refine ⟨_, pss_cons h h', fun Hs H rh sg et m Dn s z => r Hs H rh sg et m _ s ?_⟩
  unfold zSeq RS.thn at z
  cases q : u et m with
  | nx e1 m1 =>
    rw [q] at z
    exact fun sg' Hs' H' rh' x s' => r' Hs' H' rh' sg' e1 m1 Dn s' (PostS.ext x z)
  | ret _ _ _ => rw [q] at z; exact z
  | brk _ _ => rw [q] at z; exact z
  | cnt _ _ => rw [q] at z; exact z
  | exc _ _ _ _ => rw [q] at z; exact z
  | stuck => rw [q] at z; exact z
@[simp] def zPass : Env → Mu → RS := fun e m => .nx e m
@[simp] def zBrk : Env → Mu → RS := fun e m => .brk e m
@[simp] def zCnt : Env → Mu → RS := fun e m => .cnt e m
theorem ss_pass : SS X W (.Pass pos) zPass := ⟨_, ps_pass, fun Hs H rh sg et m Dn s z => z sg Hs H rh .refl s⟩
theorem ss_break : SS X W (.Break pos) zBrk := ⟨_, ps_break, fun Hs H rh sg et m Dn s z => z sg Hs H rh .refl s⟩
theorem ss_continue : SS X W (.Continue pos) zCnt := ⟨_, ps_continue, fun Hs H rh sg et m Dn s z => z sg Hs H rh .refl s⟩
def zExpr (f : Env → Mu → R Va) : Env → Mu → RS := fun e m => (f e m).toS e fun _ m => .nx e m
theorem ss_expr (h : SE X W e f) (hs : swapsWith e none pos.line X.env = pure false := by rfl) : SS X W (.Expr e pos) (zExpr f) := by
  obtain ⟨t, h, r⟩ := h
  refine ⟨_, ps_expr h hs, fun Hs H rh sg et m Dn s z => r Hs H rh sg et m _ s (Post.toS s z fun d m1 v Hs1 H1 rh1 x1 s1 r1 p1 => ?_)⟩
  exact p1 sg Hs1 H1 rh1 .refl s1
def zRet (f : Env → Mu → R Va) : Env → Mu → RS := fun e m => (f e m).toS e fun d m => .ret d e m
theorem ss_ret (h : SE X W e f) : SS X W (.Return (some e) pos) (zRet f) := by
  obtain ⟨t, h, r⟩ := h
  refine ⟨_, ps_ret h, fun Hs H rh sg et m Dn s z => r Hs H rh sg et m _ s (Post.toS s z fun d m1 v Hs1 H1 rh1 x1 s1 r1 p1 => ?_)⟩
  exact p1 v sg Hs1 H1 rh1 .refl s1 r1
@[simp] def zRetN : Env → Mu → RS := fun e m => .ret (.d .non) e m
theorem ss_retN : SS X W (.Return none pos) zRetN := ⟨_, ps_retN, fun Hs H rh sg et m Dn s z => z .non sg Hs H rh .refl s mk_non⟩
def zIf (p : Env → Mu → R Bool) (u v : Env → Mu → RS) : Env → Mu → RS := fun e m => (p e m).toS e fun b m => if b = true then u e m else v e m
theorem ss_if (hc : ST X W e p) (ha : SB X W sts u) (hb : SB X W sts' v) : SS X W (.If e sts sts' pos) (zIf p u v) := by
  obtain ⟨tc, hc, rc⟩ := hc
  obtain ⟨ta, ha, ra⟩ := ha
  obtain ⟨tb, hb, rb⟩ := hb
  refine ⟨_, ps_if hc ha hb, fun Hs H rh sg et m Dn s z => rc Hs H rh sg et m _ s ?_⟩
  unfold zIf R.toS at z
  cases q : p et m with
  | ok b1 m1 =>
    rw [q] at z
    intro c Hs' H' rh' x s' e
    have e' : b1 = c := e
    subst e'
    cases b1 with
    | true => exact iteT (ra Hs' H' rh' sg et m1 Dn s' (PostS.ext x (by simpa using z)))
    | false => exact iteF (rb Hs' H' rh' sg et m1 Dn s' (PostS.ext x (by simpa using z)))
  | exc c d m1 => rw [q] at z; exact fun dx v Hs' H' rh' y s q r => z dx v sg Hs' H' rh' y s q r
  | stuck => rw [q] at z; exact z.elim
/-- targets -/
@[simp] def gN (i : Nat) : Va → Env → Mu → RS := fun x e m => .nx (e.set i (some x)) m
theorem sg_name {i : Nat} {x : Str} (hN : X.N.Nodup) (hi : X.N[i]? = some x) (hx : Loc X.env.scope x) (hf : X.fn x = true ∨ X.env.scope.names.lookup x = some .local := by first | exact .inl rfl | exact .inr rfl | assumption) : SG X (.Name x pos) (gN i) :=
  ⟨_, pg_name hN hi hx hf, fun Hs H rh sg et m x v Q s r z => z _ Hs H rh .refl (s.set r)⟩
@[simp] def gTupS (gs : List (Va → Env → Mu → RS)) : List D → Env → Mu → RS := match gs with
  | [] => fun ds e m => match ds with
    | [] => .nx e m
    | _ => .stuck
  | g :: gs => fun ds e m => match ds with
    | d :: ds => (g (.d d) e m).stored (gTupS gs ds)
    | [] => .stuck
def SGs (X : Cx) (es : List Expr) (gs : List (Va → Env → Mu → RS)) : Prop := ∃ t, PGs X es t ∧ ∀ Hs H rh sg et m ds vs (Q : St2 → Hp → Prop), SR X.K Hs H rh sg et m → Reps X.K Hs ds vs → PostG X.K Hs H rh Q (gTupS gs ds et m) → t vs sg H Q
theorem sgs_nil : SGs X [] [] := ⟨_, pgs_nil, fun Hs H rh sg et m ds vs Q s r z => by
  cases ds with
  | nil => exact ⟨reps_nil.mp r, z _ Hs H rh .refl s⟩
  | cons d ds => exact z.elim⟩
theorem sgs_cons {es : List Expr} {g : Va → Env → Mu → RS} {gs : List (Va → Env → Mu → RS)} (h1 : SG X e g) (h2 : SGs X es gs) (hs : (assignEach (e :: es) X.env).map (·.2) = assign e X.env :: (assignEach es X.env).map (·.2) := by rfl) : SGs X (e :: es) (g :: gs) := by
  obtain ⟨t, h, r⟩ := h1
  obtain ⟨t', h', r'⟩ := h2
  refine ⟨_, pgs_cons h h' hs, fun Hs H rh sg et m ds vs Q s rr z => ?_⟩
  cases ds with
  | nil => exact z.elim
  | cons d ds =>
    simp only [Reps] at rr
    obtain ⟨v, rs, rfl, r1, r2⟩ := rr
    refine ⟨v, rs, rfl, r Hs H rh sg et m (.d d) v _ s r1 ?_⟩
    have z' : PostG X.K Hs H rh Q ((g (.d d) et m).stored (gTupS gs ds)) := z
    unfold RS.stored at z'
    cases q : g (.d d) et m with
    | nx e1 m1 =>
      rw [q] at z'
      intro sg' Hs' H' rh' x s'
      refine r' Hs' H' rh' sg' e1 m1 ds rs Q s' (r2.mono x.sub) ?_
      dsimp only at z'
      cases q2 : gTupS gs ds e1 m1 with
      | nx e2 m2 => rw [q2] at z'; exact fun sg2 Hs2 H2 rh2 x2 s2 => z' sg2 Hs2 H2 rh2 (x.trans x2) s2
      | _ => rw [q2] at z'; exact z'.elim
    | _ => rw [q] at z'; exact z'.elim
@[simp] def gT (gs : List (Va → Env → Mu → RS)) : Va → Env → Mu → RS := fun x e m => match x with
  | .d (.tup ds) => if ds.length = gs.length then gTupS gs ds e m else .stuck
  | _ => .stuck
theorem sg_tup {es : List Expr} {k : Nat} {gs : List (Va → Env → Mu → RS)} (hc : X.calm = true) (hl : gs.length = es.length) (h : SGs X es gs)
    (hn : (assignEach es X.env).length = es.length := by rfl) (hst : (assignEach es X.env).findIdx? (·.1) = none := by rfl) : SG X (.Tuple es k pos) (gT gs) := by
  obtain ⟨t, h, r⟩ := h
  refine ⟨_, pg_tup hc h hn hst, fun Hs H rh sg et m x v Q s rr z => ?_⟩
  unfold gT at z
  cases x with
  | l n => exact z.elim
  | d x =>
    cases x with
    | tup ds =>
      have rr' : Rep X.K Hs (.tup ds) v := rr
      simp only [Rep] at rr'
      obtain ⟨a, vs, e1, e2, e3⟩ := rr'
      dsimp only at z
      by_cases hlen : ds.length = gs.length
      · rw [if_pos hlen] at z
        exact ⟨a, vs, e1, Same.seqT s.sc.same e2, by rw [e3.length, hlen, hl], r Hs H rh sg et m ds vs Q s e3 z⟩
      · rw [if_neg hlen] at z
        exact z.elim
    | _ => exact z.elim
def zAsg (f : Env → Mu → R Va) (t : Va → Env → Mu → RS) : Env → Mu → RS := fun e m => (f e m).toS e fun d m => (t d e m).stored RS.nx
theorem asg_read {te : TE} {tg : TG} {t : Va → Env → Mu → RS} (r : ∀ Hs H rh sg et m Q, SR X.K Hs H rh sg et m → Post X.K W (RlA X.K) Hs H rh sg et Q (f et m) → te sg H Q) (rg : ∀ Hs H rh sg et m x v (Q : St2 → Hp → Prop), SR X.K Hs H rh sg et m → RepA X.K Hs rh x v → PostG X.K Hs H rh Q (t x et m) → tg v sg H Q) {Hs H : Hp} {rh : List Addr} {sg : St2} {et : Env} {m : Mu} {Dn : Ends} (s : SR X.K Hs H rh sg et m) (z : PostS X.K W Hs H rh Dn (zAsg f t et m)) : te sg H fun x H1 => tg x sg H1 Dn.nx := by
  refine r Hs H rh sg et m _ s (Post.toS s z fun d m1 v Hs1 H1 rh1 x1 s1 r1 p1 => rg Hs1 H1 rh1 sg et m1 d v _ s1 r1 ?_)
  cases q : t d et m1 with
  | nx e2 m2 => rw [q] at p1; exact fun sg' Hs' H' rh' x s' => p1 sg' Hs' H' rh' x s'
  | _ => rw [q] at p1; exact p1.elim
theorem ss_asg {tg : Expr} {t : Va → Env → Mu → RS} (he : SE X W e f) (hg : SG X tg t) (hs : swapsWithSole [tg] e pos.line X.env = pure false := by rfl) (hw : swappedStores [tg] e X.env = pure none := by rfl) (h1 : (assignEach [tg] X.env).map (·.2) = [assign tg X.env] := by rfl) : SS X W (.Assign [tg] e pos) (zAsg f t) := by
  obtain ⟨te, h, r⟩ := he
  obtain ⟨tg', hg, rg⟩ := hg
  exact ⟨_, ps_asg h hg hs hw h1, fun Hs H rh sg et m Dn s z => asg_read r rg s z⟩
/-- x = e -/
theorem ss_set {i : Nat} {x : Str} {pos' : Pos} (hN : X.N.Nodup) (hi : X.N[i]? = some x) (hx : Loc X.env.scope x) (he : SE X W e f) (hs : swapsWith e (some (.Name x pos')) pos.line X.env = pure false := by rfl) (hf : X.fn x = true ∨ X.env.scope.names.lookup x = some .local := by first | exact .inl rfl | exact .inr rfl | assumption) :
    SS X W (.Assign [.Name x pos'] e pos) (zAsg f (gN i)) := by
  obtain ⟨te, h, r⟩ := he
  exact ⟨_, ps_set hN hi hx h hs hf, fun Hs H rh sg et m Dn s z => asg_read (tg := gName i) (t := gN i) r (fun Hs H rh sg et m x v Q s r z => z _ Hs H rh .refl (s.set r)) s z⟩
end
end DL
set_option maxHeartbeats 4000000
namespace DL
open PySem PySem.Spec PyProof.Rows L2
/-! ## Calls of defs -/
theorem passN {X : Cx} : Passes (L2N.CX X.prog X.w) X E0 := fun _ _ _ _ _ _ _ h => by
  obtain ⟨_, _, _, _, _, _, _, _, _, _, _, _, z⟩ := h
  exact z.elim
/-- around a part that lets nothing out -/
theorem takesN0 {X : Cx} : L2N.Takes X (fun _ _ _ _ => False) := fun _ _ x => by
  obtain ⟨_, _, _, _, _, _, _, _, _, _, _, _, _, _, _, _, z⟩ := x
  exact z.elim
@[simp] def datas : List Va → Option (List D)
  | [] => some []
  | .d x :: r => (datas r).map (x :: ·)
  | .l _ :: _ => none
section
variable (K : PySem.W.Frag)
def PostP (Hs H : Hp) (Q : VK) (E : XK) : R0 → Prop
  | .ok d => ∀ v Hs' H', Same Hs Hs' → Same Hs' H' → Same H H' → (∀ b, Hs' b ≠ none → Hs b ≠ none ∨ H b = none) → Rep K Hs' d v → Q v H'
  | .exc c d => ∀ dx v Hs' H', Same Hs Hs' → Same Hs' H' → Same H H' → (∀ b, Hs' b ≠ none → Hs b ≠ none ∨ H b = none) → XdAt H Hs' H' [] dx v → Rep K Hs' d v → E (.ref (cA K c)) (some dx) H'
  | .stuck => False
def SpP (n : Nat) (F : List D → R0) : Sp := fun vs H Q E => vs.length = n ∧ ∃ Hs ds, Same Hs H ∧ Reps K Hs ds vs ∧ PostP K Hs H Q E (F ds)
def PostF (Hs H : Hp) (rh : List Addr) (Q : VK) (E : XK) : R Va → Prop
  | .ok d m => ∀ v Hs' H' rh', Ext Hs H rh Hs' H' rh' → SC K Hs' H' rh' m → RepA K Hs' rh' d v → Q v H'
  | .exc c d m => ∀ dx v Hs' H' rh', Ext Hs H rh Hs' H' rh' → SC K Hs' H' rh' m → XdAt H Hs' H' rh' dx v → Rep K Hs' d v → E (.ref (cA K c)) (some dx) H'
  | .stuck => False
def SpS (n : Nat) (F : List Va → Mu → R Va) : Sp := fun vs H Q E => vs.length = n ∧ ∃ Hs rh m ds, SC K Hs H rh m ∧ RepAs K Hs rh ds vs ∧ PostF K Hs H rh Q E (F ds m)
end
structure FnP (P : Program) (w : World) (K : PySem.W.Frag) (mg : Str → Option Value) (base : Heap) (k : Nat) (x : Str) (n : Nat) (F : List D → R0) : Prop where
  ex : ∃ f fd ps, mg x = some (.ref f) ∧ PySem.W.keepIn K (.ref f) = true ∧ Binds K fd ps [] ∧ FnOk P w K mg base (L2N.CX P w) k f fd ps (SpP K n F)
structure FnS (P : Program) (w : World) (K : PySem.W.Frag) (mg : Str → Option Value) (base : Heap) (k : Nat) (x : Str) (n : Nat) (F : List Va → Mu → R Va) : Prop where
  ex : ∃ f fd ps, mg x = some (.ref f) ∧ PySem.W.keepIn K (.ref f) = true ∧ Binds K fd ps [] ∧ FnOk P w K mg base (L2N.CX P w) k f fd ps (SpS K n F)
@[simp] def liftP (F : List D → R0) (as : List Va) (m : Mu) : R Va := match datas as with
  | some ds => (match F ds with
    | .ok d => .ok (.d d) m
    | .exc c d => .exc c d m
    | .stuck => .stuck)
  | none => .stuck
section
variable {K : PySem.W.Frag} {Hs H Hs1 H1 : Hp} {rh : List Addr} {W : WX} {sg : St2} {et : Env} {m : Mu}
theorem reps_datas : ∀ {as : List Va} {vs : List V} {ds : List D}, RepAs K Hs rh as vs → datas as = some ds → Reps K Hs ds vs
  | [], vs, ds, h, e => by
    cases e
    exact reps_nil.mpr h
  | .d x :: r, vs, ds, h, e => by
    obtain ⟨v, r', rfl, h1, h2⟩ := h
    have e' : (datas r).map (x :: ·) = some ds := e
    cases q : datas r with
    | none => rw [q] at e'; cases e'
    | some ds' =>
      rw [q] at e'
      cases e'
      exact reps_cons.mpr ⟨h1, reps_datas h2 q⟩
  | .l _ :: _, _, _, _, e => by cases e
theorem RepAs.length : ∀ {as : List Va} {vs : List V}, RepAs K Hs rh as vs → vs.length = as.length
  | [], vs, h => by rw [show vs = [] from h]; rfl
  | _ :: r, vs, h => by
    obtain ⟨v, r', rfl, h1, h2⟩ := h
    rw [List.length_cons, List.length_cons, RepAs.length h2]
/-- a pure def's promise, where cells stand beside -/
theorem postP_of {F : List D → R0} {as : List Va} {vs : List V} {Q : VK} (s : SR K Hs H rh sg et m) (r : RepAs K Hs rh as vs) {n : Nat} (hn : vs.length = n) (p : Post K W (RlA K) Hs H rh sg et Q (liftP F as m)) : SpP K n F vs H Q (WE W sg) := by
  unfold liftP at p
  cases q : datas as with
  | none => rw [q] at p; exact p.elim
  | some ds =>
    rw [q] at p
    refine ⟨hn, Hs, ds, s.sc.same, reps_datas r q, ?_⟩
    dsimp only at p
    cases z : F ds with
    | ok d =>
      rw [z] at p
      intro v Hs' H' a b c f hv
      obtain ⟨sc, x⟩ := s.sc.frame a b c f
      exact p v Hs' H' rh x (s.ext x sc) hv
    | exc c d =>
      rw [z] at p
      intro dx v Hs' H' a b c f hd hv
      obtain ⟨sc, x⟩ := s.sc.frame a b c f
      exact p dx v Hs' H' rh x (s.ext x sc) ⟨hd.new, hd.fro, fun z => s.sc.old dx z hd.new, hd.at_⟩ hv
    | stuck => rw [z] at p; exact p.elim
theorem postS_of {F : List Va → Mu → R Va} {as : List Va} {vs : List V} {Q : VK} (s : SR K Hs H rh sg et m) (r : RepAs K Hs rh as vs) {n : Nat} (hn : vs.length = n) (p : Post K W (RlA K) Hs H rh sg et Q (F as m)) : SpS K n F vs H Q (WE W sg) := by
  refine ⟨hn, Hs, rh, m, as, s.sc, r, ?_⟩
  cases z : F as m with
  | ok d m' =>
    rw [z] at p
    exact fun v Hs' H' rh' x sc hv => p v Hs' H' rh' x (s.ext x sc) hv
  | exc c d m' =>
    rw [z] at p
    exact fun dx v Hs' H' rh' x sc hd hv => p dx v Hs' H' rh' x (s.ext x sc) hd hv
  | stuck => rw [z] at p; exact p.elim
end
def xCallP (n : Nat) (F : List D → R0) (g : Env → Mu → R (List Va)) : Env → Mu → R Va := fun et m => (g et m).bind fun as m => if as.length = n then liftP F as m else .stuck
def xCallS (n : Nat) (F : List Va → Mu → R Va) (g : Env → Mu → R (List Va)) : Env → Mu → R Va := fun et m => (g et m).bind fun as m => if as.length = n then F as m else .stuck
section
variable {X : Cx} {W : WX} {k n : Nat} {x : Str} {p pos : Pos} {e : Expr} {es : List Expr} {g : Env → Mu → R (List Va)}
theorem se_callP {F : List D → R0} (hf : FnP X.prog X.w X.K X.mg X.base k x n F) (hr : Room k X.A) (tk : L2N.Takes X W) (hg : Gl X x) (ha : SA X W (e :: es) g) (hdb : (x == ("__debug__" : Str)) = false := by decide)
    (he : starEach (e :: es) X.env = (false, eval e X.env) :: starEach es X.env := by rfl) (hpl : (backTo pos (starEach es X.env)).any (·.1) = false := by rfl) : SE X W (.Call (.Name x p) (e :: es) [] pos) (xCallP n F g) := by
  obtain ⟨f, fd, ps, hm, hk, hb, ok⟩ := hf.ex
  obtain ⟨t, ht, r⟩ := ha
  refine ⟨_, pe_callS ok hr hg hm hk hb (fun sg => L2N.passAt tk sg) ht hdb he hpl, fun Hs H rh sg et m Q s z => ?_⟩
  unfold xCallP at z
  refine r Hs H rh sg et m _ s (Post.step z fun as m1 vs Hs1 H1 rh1 x1 s1 r1 p1 => ?_)
  by_cases hl : as.length = n
  · rw [if_pos hl] at p1
    exact postP_of s1 r1 (by rw [r1.length, hl]) p1
  · rw [if_neg hl] at p1
    exact p1.elim
theorem se_callS {F : List Va → Mu → R Va} (hf : FnS X.prog X.w X.K X.mg X.base k x n F) (hr : Room k X.A) (tk : L2N.Takes X W) (hg : Gl X x) (ha : SA X W (e :: es) g) (hdb : (x == ("__debug__" : Str)) = false := by decide)
    (he : starEach (e :: es) X.env = (false, eval e X.env) :: starEach es X.env := by rfl) (hpl : (backTo pos (starEach es X.env)).any (·.1) = false := by rfl) : SE X W (.Call (.Name x p) (e :: es) [] pos) (xCallS n F g) := by
  obtain ⟨f, fd, ps, hm, hk, hb, ok⟩ := hf.ex
  obtain ⟨t, ht, r⟩ := ha
  refine ⟨_, pe_callS ok hr hg hm hk hb (fun sg => L2N.passAt tk sg) ht hdb he hpl, fun Hs H rh sg et m Q s z => ?_⟩
  unfold xCallS at z
  refine r Hs H rh sg et m _ s (Post.step z fun as m1 vs Hs1 H1 rh1 x1 s1 r1 p1 => ?_)
  by_cases hl : as.length = n
  · rw [if_pos hl] at p1
    exact postS_of s1 r1 (by rw [r1.length, hl]) p1
  · rw [if_neg hl] at p1
    exact p1.elim
@[simp] def xCall0 (F : List D → R0) : Env → Mu → R Va := fun et m => match F [] with
  | .ok d => .ok (.d d) m
  | _ => .stuck
theorem se_call0 {F : List D → R0} (hf : FnP X.prog X.w X.K X.mg X.base k x 0 F) (hr : Room k X.A) (hg : Gl X x) (hdb : (x == ("__debug__" : Str)) = false := by decide) : SE X W (.Call (.Name x p) [] [] pos) (xCall0 F) := by
  obtain ⟨f, fd, ps, hm, hk, hb, ok⟩ := hf.ex
  refine ⟨_, pe_call0 (dvs := []) (ds := []) (E := E0) ok hr hg hm hk hb .nil passN hdb, fun Hs H rh sg et m Q s z => ?_⟩
  unfold xCall0 at z
  show SpP X.K 0 F [] H Q E0
  refine ⟨rfl, Hs, [], s.sc.same, reps_nil.mpr rfl, ?_⟩
  cases q : F [] with
  | ok d =>
    rw [q] at z
    intro v Hs' H' a b c f hv
    obtain ⟨sc, x⟩ := s.sc.frame a b c f
    exact z v Hs' H' rh x (s.ext x sc) hv
  | exc c d => rw [q] at z; exact z.elim
  | stuck => rw [q] at z; exact z.elim
end
/-! ## A def by its body -/
@[simp] def startD (n : Nat) (as : List Va) : Env := as.map some ++ List.replicate (n - as.length) none
/-- what a body's end says of a pure def -/
@[simp] def outP : RS → R0
  | .ret (.d d) _ _ => .ok d
  | .ret (.l n) _ m => (match m[n]? with
    | some (some (.lst ds)) => .ok (.lst ds)
    | some (some (.dct kvs)) => .ok (.dct kvs)
    | some (some (.dtn w kvs)) => (match datP kvs with
      | some ds => .ok (.dtn w ds)
      | none => .stuck)
    | _ => .stuck)
  | .nx _ _ => .ok .non
  | .exc c d _ _ => .exc c d
  | _ => .stuck
structure Cok (X : Cx) (W : WX) (k : Nat) : Prop where
  tk : L2N.Takes X W
  po : PassesOwn (model X.prog X.w) X.A X.env X.xe
  hr : Room k X.A
  calm : X.calm = true
section
variable {P : Program} {w : World} {K : PySem.W.Frag} {mg : Str → Option Value} {base : Heap} {x qual : Str} {params : Arguments} {body : List Stmt} {scope : Scope} {f : Addr} {fd : FuncData} {N ps : List Str} {k n : Nat}
abbrev cxD (P : Program) (w : World) (K : PySem.W.Frag) (mg : Str → Option Value) (base : Heap) (N : List Str) (qual : Str) (scope : Scope) (f : Addr) (cd : Value) (A : Around) (outer : List PySem.Env) (s : Shared) (H : Hp) (E : XK) : Cx := cxOf (L2N.CX P w) P w K mg base N qual scope f cd A outer s H E
theorem start_rep {Hs : Hp} {rh : List Addr} : ∀ {as : List Va} {vs : List V} {n : Nat} (i : Nat) (d : Va), RepAs K Hs rh as vs → (startD n as)[i]? = some (some d) → ∃ v, (vs.map some ++ List.replicate (n - vs.length) (none : Option V))[i]? = some (some v) ∧ RepA K Hs rh d v
  | as, vs, n, i, d, h, e => by
    have hl := h.length
    by_cases hi : i < as.length
    · have get : ∀ {as : List Va} {vs : List V} {i : Nat} {d : Va}, RepAs K Hs rh as vs → as[i]? = some d → ∃ v, vs[i]? = some v ∧ RepA K Hs rh d v := by
        intro as
        induction as with
        | nil => intro vs i d h e; simp at e
        | cons a as ih =>
          intro vs i d h e
          obtain ⟨v, r, rfl, h1, h2⟩ := h
          cases i with
          | zero => simp at e; subst e; exact ⟨v, rfl, h1⟩
          | succ i => obtain ⟨v', q1, q2⟩ := ih (i := i) h2 (by simpa using e); exact ⟨v', by simpa using q1, q2⟩
      unfold startD at e
      rw [List.getElem?_append_left (by simpa using hi), List.getElem?_map] at e
      cases q : as[i]? with
      | none => rw [q] at e; cases e
      | some d' =>
        rw [q] at e
        cases e
        obtain ⟨v, e1, e2⟩ := get h q
        exact ⟨v, by rw [List.getElem?_append_left (by simpa [hl] using hi), List.getElem?_map, e1]; rfl, e2⟩
    · unfold startD at e
      rw [List.getElem?_append_right (by simpa using Nat.le_of_not_lt hi)] at e
      have q := List.mem_of_getElem? e
      rw [List.mem_replicate] at q
      exact nomatch q.2
theorem sr_start {Hs H : Hp} {rh : List Addr} {m : Mu} {as : List Va} {vs : List V} (sc : SC K Hs H rh m) (h : RepAs K Hs rh as vs) : SR K Hs H rh (L2.start N vs) (startD N.length as) m := by
  refine ⟨sc, ?_, fun i d e => start_rep i d h e⟩
  have hl := h.length
  unfold L2.start startD
  simp [hl]
theorem repAs_d {Hs : Hp} {rh : List Addr} : ∀ {ds : List D} {vs : List V}, Reps K Hs ds vs → RepAs K Hs rh (ds.map .d) vs
  | [], vs, h => reps_nil.mp h
  | d :: ds, vs, h => by
    simp only [Reps] at h
    obtain ⟨v, r, rfl, h1, h2⟩ := h
    exact ⟨v, r, rfl, h1, repAs_d h2⟩
theorem fnP_of {F : List D → R0} {g : Env → Mu → RS} (hm : mg x = some (.ref f)) (F0 : FunD K x2 qual params body scope [] [] f fd) (S : FnScope N ps scope) (hb : Binds K fd ps []) (hn : ps.length = n)
    (hbody : ∀ cd A outer s H E, Cok (cxD P w K mg base N qual scope f cd A outer s H E) (fun c d _ H => E c d H) k → SB (cxD P w K mg base N qual scope f cd A outer s H E) (fun c d _ H => E c d H) body g)
    (hF : ∀ ds, ds.length = n → F ds ≠ .stuck → outP (g (startD N.length (ds.map .d)) []) = F ds) : FnP P w K mg base (k + 1) x n F := by
  refine ⟨f, fd, ps, hm, F0.kp, hb, F0.ok S (fun vs H Q E h => h.1.trans hn.symm) fun cd A outer s H vs Q E hr h => ?_⟩
  obtain ⟨hl, Hs, ds, sm, rp, z⟩ := h
  obtain ⟨t, ht, r⟩ := hbody cd A outer s H E ⟨L2N.takes_of (X := cxD P w K mg base N qual scope f cd A outer s H E) rfl rfl rfl rfl, passes_of (X := cxD P w K mg base N qual scope f cd A outer s H E) rfl, hr, rfl⟩
  have sc : SC K Hs H [] [] := ⟨sm, rfl, fun n c e => by simp at e, List.nodup_nil, fun a ha => by cases ha⟩
  refine ⟨t, ht, r Hs H [] _ _ [] _ (sr_start sc (repAs_d rp)) ?_⟩
  have hns : F ds ≠ .stuck := fun q => by rw [q] at z; exact z
  have e := hF ds (by rw [← rp.length]; exact hl) hns
  have rh0 : ∀ {Hs' H' : Hp} {rh' : List Addr}, Ext Hs H [] Hs' H' rh' → Same H H' ∧ (∀ b, Hs' b ≠ none → Hs b ≠ none ∨ H b = none) := fun x => ⟨fun b o q => x.keep b o q (by simp), fun b q => (x.froz b q).imp id fun z => z.elim id fun q => absurd q (by simp)⟩
  show PostS K (fun c d _ H => E c d H) Hs H [] _ (g (startD N.length (ds.map .d)) [])
  cases q : g (startD N.length (ds.map .d)) [] with
  | nx e1 m1 =>
    rw [q] at e
    have e' : R0.ok .non = F ds := e
    rw [← e'] at z
    exact fun sg' Hs' H' rh' x s' => z .non Hs' H' x.sub s'.sc.same (rh0 x).1 (rh0 x).2 (rnon _ _)
  | ret v e1 m1 =>
    rw [q] at e
    cases v with
    | d v =>
      have e' : R0.ok v = F ds := e
      rw [← e'] at z
      exact fun u sg' Hs' H' rh' x s' hv => z u Hs' H' x.sub s'.sc.same (rh0 x).1 (rh0 x).2 hv
    | l i =>
      intro u sg' Hs' H' rh' x s' hv
      obtain ⟨a, ha, rfl⟩ := hv
      have fin : ∀ (c : Ce), m1[i]? = some (some c) → ∃ o, H' a = some o ∧ Hs' a = none ∧ RepO K Hs' rh' a c o := fun c hc => by
        obtain ⟨a', o, e1, e2, e3, e4⟩ := s'.sc.cell i c hc
        rw [ha] at e1
        cases e1
        exact ⟨o, e3, e2, e4⟩
      have up : ∀ o, H' a = some o → Hs' a = none → Same Hs (upd Hs' a o) ∧ Same (upd Hs' a o) H' ∧ (∀ b, upd Hs' a o b ≠ none → Hs b ≠ none ∨ H b = none) ∧ Same Hs' (upd Hs' a o) := fun o h1 h2 => by
        have sm2 : Same Hs' (upd Hs' a o) := fun b u e => by rw [upd_ne (ne_of_none e h2)]; exact e
        refine ⟨x.sub.trans sm2, fun b u e => ?_, fun b hb2 => ?_, sm2⟩
        · by_cases hba : b = a
          · subst hba; rw [upd_same] at e; cases e; exact h1
          · rw [upd_ne hba] at e; exact s'.sc.same b u e
        · by_cases hba : b = a
          · subst hba
            rcases x.new b (List.mem_of_getElem? ha) with z | z
            · cases z
            · exact .inr z
          · rw [upd_ne hba] at hb2; exact (rh0 x).2 b hb2
      have e' : (match m1[i]? with
        | some (some (.lst ds)) => R0.ok (.lst ds)
        | some (some (.dct kvs)) => .ok (.dct kvs)
        | some (some (.dtn w kvs)) => (match datP kvs with
          | some ds => .ok (.dtn w ds)
          | none => .stuck)
        | _ => .stuck) = F ds := e
      cases qm : m1[i]? with
      | none => rw [qm] at e'; exact absurd e'.symm hns
      | some oc =>
        rw [qm] at e'
        cases oc with
        | none => exact absurd e'.symm hns
        | some c =>
          obtain ⟨o, h1, h2, h3⟩ := fin c qm
          obtain ⟨u1, u2, u3, u4⟩ := up o h1 h2
          cases c with
          | lst xs =>
            dsimp only at e'
            rw [← e'] at z
            obtain ⟨vs', rfl, h4⟩ := h3
            refine z (.ref a) (upd Hs' a (.lst vs')) H' u1 u2 (rh0 x).1 u3 ?_
            simp only [Rep]
            exact ⟨a, vs', rfl, upd_same, h4.mono u4⟩
          | dct xs =>
            dsimp only at e'
            rw [← e'] at z
            obtain ⟨ws, h4, h5⟩ := h3
            refine z (.ref a) (upd Hs' a o) H' u1 u2 (rh0 x).1 u3 ?_
            simp only [Rep]
            exact ⟨a, o, ws, rfl, upd_same, h4, h5.mono u4⟩
          | obj c fs => exact absurd e'.symm hns
          | dtn w xs =>
            dsimp only at e'
            obtain ⟨ys, h4, _, h5⟩ := h3
            cases q2 : datP xs with
            | none => rw [q2] at e'; exact absurd e'.symm hns
            | some es =>
              rw [q2] at e'
              dsimp only at e'
              rw [← e'] at z
              refine z (.ref a) (upd Hs' a o) H' u1 u2 (rh0 x).1 u3 ?_
              simp only [Rep]
              exact ⟨a, ys, rfl, by rw [upd_same, h4], (h5.dat q2).mono u4⟩
  | brk e1 m1 => rw [q] at e; exact absurd e.symm hns
  | cnt e1 m1 => rw [q] at e; exact absurd e.symm hns
  | exc c d e1 m1 =>
    rw [q] at e
    have e' : R0.exc c d = F ds := e
    rw [← e'] at z
    exact fun dx v sg' Hs' H' rh' x s' hd hv => z dx v Hs' H' x.sub s'.sc.same (rh0 x).1 (rh0 x).2 ⟨hd.new, hd.fro, by simp, hd.at_⟩ hv
  | stuck => rw [q] at e; exact absurd e.symm hns
/-- what a body's end says of a def that works upon cells: the cells made within are forgotten -/
def outS (n : Nat) : RS → R Va
  | .ret (.d d) _ m => .ok (.d d) (m.take n)
  | .nx _ m => .ok (.d .non) (m.take n)
  | .exc c d _ m => .exc c d (m.take n)
  | _ => .stuck
end
end DL
set_option maxHeartbeats 4000000
namespace DL
open PySem PySem.Spec PyProof.Rows L2
/-! ## Defs that work upon cells -/
/-- what names cells below L alone -/
def LowV (L : Nat) : Va → Prop
  | .d _ => True
  | .l n => n < L
def LowC (L : Nat) : Ce → Prop
  | .obj _ fs => ∀ p ∈ fs, LowV L p.2
  | .dtn _ kvs => ∀ p ∈ kvs, LowV L p.2
  | .lst _ => True
  | .dct _ => True
structure Cut (m m' mF : Mu) : Prop where
  len : mF.length = m.length
  pre : mF <+: m'
  objs : ∀ (i : Nat) (c : Ce), mF[i]? = some (some c) → m[i]? = some (some c) ∨ LowC m.length c
def OutS (m : Mu) : RS → R Va → Prop
  | .ret (.d d) _ m', .ok (.d d') mF => d = d' ∧ Cut m m' mF
  | .nx _ m', .ok (.d d') mF => D.non = d' ∧ Cut m m' mF
  | .ret (.l j) _ m', .ok (.l n) m2 => n = m.length ∧ ∃ mF c, m2 = mF ++ [some c] ∧ Cut m m' mF ∧ m.length ≤ j ∧ m'[j]? = some (some c) ∧ LowC m.length c
  | .exc c d _ m', .exc c' d' mF => c = c' ∧ d = d' ∧ Cut m m' mF
  | _, _ => False
section
variable {K : PySem.W.Frag} {Hs H Hs1 H1 : Hp} {rh rh1 : List Addr} {m m1 mF : Mu}
section
variable {rh2 : List Addr} {L : Nat}
theorem RepA.low (ag : ∀ n, n < L → rh1[n]? = rh2[n]?) {d : Va} {v : V} (hl : LowV L d) (h : RepA K Hs rh1 d v) : RepA K Hs rh2 d v := by
  cases d with
  | d x => exact h
  | l n =>
    obtain ⟨a, e, r⟩ := h
    exact ⟨a, by rw [← ag n hl]; exact e, r⟩
theorem RepAF.low (ag : ∀ n, n < L → rh1[n]? = rh2[n]?) : ∀ {fs : List (Str × Va)} {vs : List (Str × V)}, (∀ p ∈ fs, LowV L p.2) → RepAF K Hs rh1 fs vs → RepAF K Hs rh2 fs vs
  | [], _, _, h => h
  | (_, _) :: _, _, hl, ⟨v, r, e, h1, h2⟩ => ⟨v, r, e, h1.low ag (hl _ (List.mem_cons_self ..)), RepAF.low ag (fun p hp => hl p (List.mem_cons_of_mem _ hp)) h2⟩
theorem RepAX.low (ag : ∀ n, n < L → rh1[n]? = rh2[n]?) : ∀ {ds : List (D × Va)} {xs : List (NestedKey × Addr × Value)}, (∀ p ∈ ds, LowV L p.2) → RepAX K Hs rh1 ds xs → RepAX K Hs rh2 ds xs
  | [], _, _, h => h
  | (_, _) :: _, _, hl, ⟨nk, b, u, v, r, e1, e2, e3, e4, e5, e6, e7⟩ => ⟨nk, b, u, v, r, e1, e2, e3, e4, e5.low ag (hl _ (List.mem_cons_self ..)), e6, RepAX.low ag (fun p hp => hl p (List.mem_cons_of_mem _ hp)) e7⟩
theorem RepO.low (ag : ∀ n, n < L → rh1[n]? = rh2[n]?) {a : Addr} {c : Ce} {o : HO} (hl : LowC L c) (h : RepO K Hs rh1 a c o) : RepO K Hs rh2 a c o := by
  cases c with
  | lst ds => exact h
  | dct ds => exact h
  | obj c fs =>
    obtain ⟨dx, vs, e, h⟩ := h
    exact ⟨dx, vs, e, h.low ag hl⟩
  | dtn w kvs =>
    obtain ⟨xs, e, nd, h⟩ := h
    exact ⟨xs, e, nd, h.low ag hl⟩
/-- what a cell names stands below -/
theorem RepA.lowV {d : Va} {v : V} (h : RepA K Hs rh d v) : LowV rh.length d := by
  cases d with
  | d x => trivial
  | l n =>
    obtain ⟨a, e, _⟩ := h
    exact (List.getElem?_eq_some_iff.mp e).1
theorem RepAF.lowV : ∀ {fs : List (Str × Va)} {vs : List (Str × V)}, RepAF K Hs rh fs vs → ∀ p ∈ fs, LowV rh.length p.2
  | [], _, _, p, hp => by cases hp
  | (_, _) :: _, _, ⟨v, r, e, h1, h2⟩, p, hp => by
    rcases List.mem_cons.mp hp with rfl | hp
    · exact h1.lowV
    · exact RepAF.lowV h2 p hp
theorem RepAX.lowV : ∀ {ds : List (D × Va)} {xs : List (NestedKey × Addr × Value)}, RepAX K Hs rh ds xs → ∀ p ∈ ds, LowV rh.length p.2
  | [], _, _, p, hp => by cases hp
  | (_, _) :: _, _, ⟨nk, b, u, v, r, e1, e2, e3, e4, e5, e6, e7⟩, p, hp => by
    rcases List.mem_cons.mp hp with rfl | hp
    · exact e5.lowV
    · exact RepAX.lowV e7 p hp
theorem RepO.lowC {a : Addr} {c : Ce} {o : HO} (h : RepO K Hs rh a c o) : LowC rh.length c := by
  cases c with
  | lst ds => trivial
  | dct ds => trivial
  | obj c fs =>
    obtain ⟨dx, vs, e, h⟩ := h
    exact h.lowV
  | dtn w kvs =>
    obtain ⟨xs, e, nd, h⟩ := h
    exact h.lowV
end
theorem SC.cut (s0 : SC K Hs H rh m) (s : SC K Hs1 H1 rh1 m1) (x : Ext Hs H rh Hs1 H1 rh1) (c : Cut m m1 mF) : SC K Hs1 H1 rh mF ∧ Ext Hs H rh Hs1 H1 rh := by
  obtain ⟨t, ht⟩ := x.pre
  refine ⟨⟨s.same, c.len.trans s0.mlen, fun i d e => ?_, s0.nd, fun a ha => s.old a (by rw [← ht]; exact List.mem_append_left _ ha)⟩, ⟨x.sub, List.prefix_refl _, x.keep, x.there, fun b hb => .inl hb, x.froz⟩⟩
  have hi : i < rh.length := by rw [← s0.mlen, ← c.len]; exact (List.getElem?_eq_some_iff.mp e).1
  have e1 : m1[i]? = some (some d) := by
    obtain ⟨u, hu⟩ := c.pre
    rw [← hu, List.getElem?_append_left (List.getElem?_eq_some_iff.mp e).1]
    exact e
  obtain ⟨a, o, q1, q2, q3, q4⟩ := s.cell i d e1
  rw [← ht, List.getElem?_append_left hi] at q1
  refine ⟨a, o, q1, q2, q3, ?_⟩
  have low : LowC rh.length d := by
    rcases c.objs i d e with z | z
    · obtain ⟨a', o', r1, r2, r3, r4⟩ := s0.cell i d z
      exact r4.lowC
    · rw [← s0.mlen]
      exact z
  exact q4.low (fun n hn => by rw [← ht, List.getElem?_append_left hn]) low
end
section
variable {P : Program} {w : World} {K : PySem.W.Frag} {mg : Str → Option Value} {base : Heap} {x qual : Str} {params : Arguments} {body : List Stmt} {scope : Scope} {f : Addr} {fd : FuncData} {N ps : List Str} {k n : Nat}
theorem fnS_of {x2 : Str} {F : List Va → Mu → R Va} {g : Env → Mu → RS} (hm : mg x = some (.ref f)) (F0 : FunD K x2 qual params body scope [] [] f fd) (S : FnScope N ps scope) (hb : Binds K fd ps []) (hn : ps.length = n)
    (hbody : ∀ cd A outer s H E, Cok (cxD P w K mg base N qual scope f cd A outer s H E) (fun c d _ H => E c d H) k → SB (cxD P w K mg base N qual scope f cd A outer s H E) (fun c d _ H => E c d H) body g)
    (hF : ∀ as m, as.length = n → F as m ≠ .stuck → OutS m (g (startD N.length as) m) (F as m)) : FnS P w K mg base (k + 1) x n F := by
  refine ⟨f, fd, ps, hm, F0.kp, hb, F0.ok S (fun vs H Q E h => h.1.trans hn.symm) fun cd A outer s H vs Q E hr h => ?_⟩
  obtain ⟨hl, Hs, rh, m, as, sc, rp, z⟩ := h
  obtain ⟨t, ht, r⟩ := hbody cd A outer s H E ⟨L2N.takes_of (X := cxD P w K mg base N qual scope f cd A outer s H E) rfl rfl rfl rfl, passes_of (X := cxD P w K mg base N qual scope f cd A outer s H E) rfl, hr, rfl⟩
  refine ⟨t, ht, r Hs H rh _ _ m _ (sr_start sc rp) ?_⟩
  have hns : F as m ≠ .stuck := fun q => by rw [q] at z; exact z
  have e := hF as m (by rw [← rp.length]; exact hl) hns
  show PostS K (fun c d _ H => E c d H) Hs H rh _ (g (startD N.length as) m)
  cases q : g (startD N.length as) m with
  | nx e1 m1 =>
    rw [q] at e
    cases qF : F as m with
    | ok v mF =>
      rw [qF] at e z
      cases v with
      | d d' =>
        obtain ⟨rfl, c⟩ := e
        intro sg' Hs' H' rh' x s'
        obtain ⟨c1, x1⟩ := sc.cut s'.sc x c
        exact z .non Hs' H' rh x1 c1 mk_non
      | l j => exact e.elim
    | _ => rw [qF] at e; exact e.elim
  | ret v e1 m1 =>
    rw [q] at e
    cases v with
    | d v =>
      cases qF : F as m with
      | ok v' mF =>
        rw [qF] at e z
        cases v' with
        | d d' =>
          obtain ⟨rfl, c⟩ := e
          intro u sg' Hs' H' rh' x s' hv
          obtain ⟨c1, x1⟩ := sc.cut s'.sc x c
          exact z u Hs' H' rh x1 c1 hv
        | l j => exact e.elim
      | _ => rw [qF] at e; exact e.elim
    | l j =>
      cases qF : F as m with
      | ok v' m2 =>
        rw [qF] at e z
        cases v' with
        | d d' => exact e.elim
        | l n' =>
          obtain ⟨rfl, mF, ce, rfl, c, hj, hce, hno⟩ := e
          intro u sg' Hs' H' rh' x s' hv
          obtain ⟨a, ha, rfl⟩ := hv
          obtain ⟨c1, x1⟩ := sc.cut s'.sc x c
          obtain ⟨a', o, e1, e2, e3, e4⟩ := s'.sc.cell j ce hce
          rw [ha] at e1
          cases e1
          obtain ⟨t', ht'⟩ := x.pre
          have hnr : a ∉ rh := fun hm => by
            obtain ⟨i, hi, e⟩ := List.mem_iff_getElem.mp hm
            have q1 : rh'[i]? = some a := by rw [← ht', List.getElem?_append_left hi, List.getElem?_eq_getElem hi, e]
            obtain ⟨h1, r1⟩ := List.getElem?_eq_some_iff.mp q1
            obtain ⟨h2, r2⟩ := List.getElem?_eq_some_iff.mp ha
            have eq : i = j := (List.getElem_inj s'.sc.nd).mp (r1.trans r2.symm)
            rw [eq, ← sc.mlen] at hi
            exact absurd hi (Nat.not_lt.mpr hj)
          have hmr : a ∈ rh' := List.mem_of_getElem? ha
          have hna : H a = none := (x.new a hmr).elim (fun z => absurd z hnr) id
          have pf : rh <+: rh ++ [a] := List.prefix_append _ _
          refine z (.ref a) Hs' H' (rh ++ [a]) ⟨x1.sub, pf, x1.keep, x1.there, fun b hb => ?_, x1.froz⟩ ⟨c1.same, by rw [List.length_append, List.length_append, c1.mlen]; rfl, fun i d e => ?_, ?_, fun b hb => s'.sc.old b ?_⟩ ⟨a, by rw [sc.mlen]; simp, rfl⟩
          · rcases List.mem_append.mp hb with z | z
            · exact .inl z
            · have eb : b = a := by simpa using z
              exact .inr (by rw [eb]; exact hna)
          · by_cases hi : i < mF.length
            · rw [List.getElem?_append_left hi] at e
              obtain ⟨b, o', q1, q2, q3, q4⟩ := c1.cell i d e
              exact ⟨b, o', by rw [List.getElem?_append_left (by rw [← c1.mlen]; exact hi)]; exact q1, q2, q3, q4.mono (.refl _) pf⟩
            · have hl2 : i = mF.length := by
                have q := (List.getElem?_eq_some_iff.mp e).1
                rw [List.length_append, List.length_singleton] at q
                omega
              subst hl2
              rw [List.getElem?_concat_length] at e
              cases e
              exact ⟨a, o, by rw [c1.mlen]; simp, e2, e3, e4.low (fun n hn => by rw [← ht', List.getElem?_append_left (by rw [← sc.mlen]; exact hn), List.getElem?_append_left (by rw [← sc.mlen]; exact hn)]) hno⟩
          · rw [List.nodup_append]
            exact ⟨sc.nd, by simp, fun y hy b hb z => hnr (by simp at hb; rw [← hb, ← z]; exact hy)⟩
          · rcases List.mem_append.mp hb with z | z
            · rw [← ht']; exact List.mem_append_left _ z
            · have eb : b = a := by simpa using z
              rw [eb]; exact hmr
      | _ => rw [qF] at e; exact e.elim
  | exc c d e1 m1 =>
    rw [q] at e
    cases qF : F as m with
    | exc c' d' mF =>
      rw [qF] at e z
      obtain ⟨rfl, rfl, ct⟩ := e
      intro dx v sg' Hs' H' rh' x s' hd hv
      obtain ⟨c1, x1⟩ := sc.cut s'.sc x ct
      exact z dx v Hs' H' rh x1 c1 ⟨hd.new, hd.fro, fun z => sc.old dx z hd.new, hd.at_⟩ hv
    | _ => rw [qF] at e; exact e.elim
  | brk e1 m1 => rw [q] at e; exact e.elim
  | cnt e1 m1 => rw [q] at e; exact e.elim
  | stuck => rw [q] at e; exact e.elim
end
/-! ## Loops -/
/-- what an iterator hands on, whatever stands beside -/
def Gv (K : PySem.W.Frag) (J : It) (xs : List Va) (Hs0 : Hp) (rh0 : List Addr) : Prop := ∀ Hs H rh m, SC K Hs H rh m → Same Hs0 Hs → rh0 <+: rh → ∀ i, (i < xs.length → J.go i H ∧ ∀ x H', J.yld i H x H' → ∃ Hs', SC K Hs' H' rh m ∧ Ext Hs H rh Hs' H' rh ∧ ∀ d, xs[i]? = some d → RepA K Hs' rh d x) ∧ (i = xs.length → J.stop i H)
def PostI (K : PySem.W.Frag) (W : WX) (Hs H : Hp) (rh : List Addr) (sg : St2) (et : Env) (Q : It → Hp → Prop) : R (List Va) → Prop
  | .ok xs m => ∀ J Hs' H' rh', Ext Hs H rh Hs' H' rh' → SR K Hs' H' rh' sg et m → Gv K J xs Hs' rh' → Q J H'
  | .exc c d m => ∀ dx v Hs' H' rh', Ext Hs H rh Hs' H' rh' → SR K Hs' H' rh' sg et m → XdAt H Hs' H' rh' dx v → Rep K Hs' d v → W (.ref (cA K c)) (some dx) sg H'
  | .stuck => False
def SI (X : Cx) (W : WX) (tg e : Expr) (f : Env → Mu → R (List Va)) : Prop := ∃ t, PI X tg e t ∧ ∀ Hs H rh sg et m Q, SR X.K Hs H rh sg et m → PostI X.K W Hs H rh sg et Q (f et m) → t sg H Q
def dFor (t : Va → Env → Mu → RS) (b : Env → Mu → RS) : List Va → Env → Mu → RS
  | [], e, m => .nx e m
  | x :: xs, e, m => (t x e m).stored fun e m => (b e m).loop (dFor t b xs)
def zFor (f : Env → Mu → R (List Va)) (t : Va → Env → Mu → RS) (b : Env → Mu → RS) : Env → Mu → RS := fun e m => (f e m).toS e fun xs m => dFor t b xs e m
section
variable {X : Cx} {W : WX} {tg iter : Expr} {body : List Stmt} {pos : Pos} {f : Env → Mu → R (List Va)} {t : Va → Env → Mu → RS} {b : Env → Mu → RS}
theorem ss_for (hp : PassesOwn (model X.prog X.w) X.A X.env X.xe) (hc : X.calm = true) (hi : SI X W tg iter f) (hg : SG X tg t) (hb : SB X W body b) (hs : ∀ x, foldedSetIterable iter X.env x = pure x := by intro _; rfl) : SS X W (.For tg iter body [] pos) (zFor f t b) := by
  obtain ⟨ti, hi, ri⟩ := hi
  obtain ⟨tt, hg, rg⟩ := hg
  obtain ⟨tb, hb, rb⟩ := hb
  refine ⟨_, ps_for hp hc hi hg hb hs, fun Hs H rh sg et m Dn s z => ri Hs H rh sg et m _ s ?_⟩
  unfold zFor R.toS at z
  cases q : f et m with
  | exc c d m1 => rw [q] at z; exact fun dx v Hs' H' rh' y s q r => z dx v sg Hs' H' rh' y s q r
  | stuck => rw [q] at z; exact z.elim
  | ok xs m1 =>
    rw [q] at z
    intro J Hs0 H0 rh0 x0 s0 gv
    have z0 : PostS X.K W Hs0 H0 rh0 Dn (dFor t b xs et m1) := PostS.ext x0 z
    refine ⟨fun i n sg' H' => n = xs.length - i ∧ i ≤ xs.length ∧ ∃ Hs' rh' e' m', SR X.K Hs' H' rh' sg' e' m' ∧ Same Hs0 Hs' ∧ rh0 <+: rh' ∧ PostS X.K W Hs' H' rh' Dn (dFor t b (xs.drop i) e' m'), ⟨xs.length, rfl, Nat.zero_le _, Hs0, rh0, et, m1, s0, .refl _, List.prefix_refl _, by simpa using z0⟩, ?_⟩
    rintro i n sg1 H1 ⟨rfl, hle, Hs1, rh1, e1, m2, s1, sm1, pf1, p1⟩
    obtain ⟨g1, g2⟩ := gv Hs1 H1 rh1 m2 s1.sc sm1 pf1 i
    by_cases hlt : i < xs.length
    · obtain ⟨go, yl⟩ := g1 hlt
      have hd : xs.drop i = xs[i] :: xs.drop (i + 1) := List.drop_eq_getElem_cons hlt
      rw [hd] at p1
      refine .inr ⟨go, fun sg' H' => ∃ Hs' rh' e' m', SR X.K Hs' H' rh' sg' e' m' ∧ Same Hs0 Hs' ∧ rh0 <+: rh' ∧ PostS X.K W Hs' H' rh' Dn (dFor t b (xs.drop (i + 1)) e' m'), fun sg' H' h => ⟨xs.length - (i + 1), by omega, rfl, hlt, h⟩, fun x H2 hy => ?_⟩
      obtain ⟨Hs2, sc2, x2, rep2⟩ := yl x H2 hy
      have s2 : SR X.K Hs2 H2 rh1 sg1 e1 m2 := s1.ext x2 sc2
      have p2 : PostS X.K W Hs2 H2 rh1 Dn (dFor t b (xs[i] :: xs.drop (i + 1)) e1 m2) := PostS.ext x2 p1
      refine rg Hs2 H2 rh1 sg1 e1 m2 xs[i] x _ s2 (rep2 _ (List.getElem?_eq_getElem hlt)) ?_
      have p3 : PostS X.K W Hs2 H2 rh1 Dn ((t xs[i] e1 m2).stored fun e m => (b e m).loop (dFor t b (xs.drop (i + 1)))) := p2
      unfold RS.stored RS.loop at p3
      cases qt : t xs[i] e1 m2 with
      | nx e3 m3 =>
        rw [qt] at p3
        intro sg3 Hs3 H3 rh3 x3 s3
        refine rb Hs3 H3 rh3 sg3 e3 m3 _ s3 ?_
        have p4 := PostS.ext x3 p3
        dsimp only at p4
        have sm3 : Same Hs0 Hs3 := sm1.trans (x2.sub.trans x3.sub)
        have pf3 : rh0 <+: rh3 := pf1.trans x3.pre
        cases qb : b e3 m3 with
        | nx e4 m4 => rw [qb] at p4; exact fun sg' Hs' H' rh' x' s' => ⟨Hs', rh', e4, m4, s', sm3.trans x'.sub, pf3.trans x'.pre, PostS.ext x' p4⟩
        | cnt e4 m4 => rw [qb] at p4; exact fun sg' Hs' H' rh' x' s' => ⟨Hs', rh', e4, m4, s', sm3.trans x'.sub, pf3.trans x'.pre, PostS.ext x' p4⟩
        | brk e4 m4 => rw [qb] at p4; exact p4
        | ret v e4 m4 => rw [qb] at p4; exact p4
        | exc c d e4 m4 => rw [qb] at p4; exact p4
        | stuck => rw [qb] at p4; exact p4.elim
      | _ => rw [qt] at p3; exact p3.elim
    · have hi : i = xs.length := by omega
      subst hi
      refine .inl ⟨g2 rfl, ?_⟩
      rw [List.drop_length] at p1
      exact p1 sg1 Hs1 H1 rh1 .refl s1
/-! while -/
def dWhile (c : Env → Mu → R Bool) (b : Env → Mu → RS) : Nat → Env → Mu → RS
  | 0, _, _ => .stuck
  | n + 1, e, m => (c e m).toS e fun v m => match v with
    | true => (b e m).loop (dWhile c b n)
    | false => .nx e m
open Classical in
noncomputable def zWhile (c : Env → Mu → R Bool) (b : Env → Mu → RS) : Env → Mu → RS := fun e m => if h : ∃ n, dWhile c b n e m ≠ .stuck then dWhile c b h.choose e m else .stuck
theorem dWhile_more {c : Env → Mu → R Bool} {b : Env → Mu → RS} : ∀ {n : Nat} {e : Env} {m : Mu}, dWhile c b n e m ≠ .stuck → dWhile c b (n + 1) e m = dWhile c b n e m
  | 0, e, m, h => absurd rfl h
  | n + 1, e, m, h => by
    have u : ∀ n, dWhile c b (n + 1) e m = (c e m).toS e fun v m => match v with
      | true => (b e m).loop (dWhile c b n)
      | false => .nx e m := fun n => rfl
    rw [u n] at h ⊢
    rw [u (n + 1)]
    cases q : c e m with
    | ok v m1 =>
      rw [q] at h
      cases v with
      | true =>
        simp only [R.toS_ok] at h ⊢
        cases qb : b e m1 with
        | nx e2 m2 => rw [qb] at h; exact dWhile_more h
        | cnt e2 m2 => rw [qb] at h; exact dWhile_more h
        | _ => rfl
      | false => rfl
    | exc _ _ _ => rfl
    | stuck => rfl
theorem dWhile_ge {c : Env → Mu → R Bool} {b : Env → Mu → RS} {n : Nat} {e : Env} {m : Mu} (h : dWhile c b n e m ≠ .stuck) : ∀ k, dWhile c b (n + k) e m = dWhile c b n e m
  | 0 => rfl
  | k + 1 => by
    have ih := dWhile_ge h k
    exact (dWhile_more (n := n + k) (fun q => h (ih.symm.trans q))).trans ih
theorem zWhile_eq {c : Env → Mu → R Bool} {b : Env → Mu → RS} {n : Nat} {e : Env} {m : Mu} (h : dWhile c b n e m ≠ .stuck) : zWhile c b e m = dWhile c b n e m := by
  unfold zWhile
  have hx : ∃ n, dWhile c b n e m ≠ .stuck := ⟨n, h⟩
  rw [dif_pos hx]
  have h1 := dWhile_ge hx.choose_spec n
  have h2 := dWhile_ge h hx.choose
  rw [← h1, ← h2, Nat.add_comm]
theorem ss_while {e : Expr} {c : Env → Mu → R Bool} (hp : PassesOwn (model X.prog X.w) X.A X.env X.xe) (hc : ST X W e c) (hb : SB X W body b) : SS X W (.While e body [] pos) (zWhile c b) := by
  obtain ⟨tc, hc, rc⟩ := hc
  obtain ⟨tb, hb, rb⟩ := hb
  refine ⟨_, ps_while hp hc hb, fun Hs H rh sg et m Dn s z => ?_⟩
  unfold zWhile at z
  by_cases hx : ∃ n, dWhile c b n et m ≠ .stuck
  · rw [dif_pos hx] at z
    generalize hx.choose = n0 at z
    refine ⟨fun n sg' H' => ∃ Hs' rh' e' m', SR X.K Hs' H' rh' sg' e' m' ∧ PostS X.K W Hs' H' rh' Dn (dWhile c b n e' m'), ⟨n0, Hs, rh, et, m, s, z⟩, ?_⟩
    rintro n sg1 H1 ⟨Hs1, rh1, e1, m1, s1, p1⟩
    cases n with
    | zero => exact p1.elim
    | succ n =>
      refine rc Hs1 H1 rh1 sg1 e1 m1 _ s1 ?_
      have p2 : PostS X.K W Hs1 H1 rh1 Dn ((c e1 m1).toS e1 fun v m => match v with
        | true => (b e1 m).loop (dWhile c b n)
        | false => .nx e1 m) := p1
      unfold R.toS RS.loop at p2
      cases q : c e1 m1 with
      | ok v m2 =>
        rw [q] at p2
        intro v' Hs2 H2 rh2 x2 s2 ev
        have ev' : v = v' := ev
        subst ev'
        cases v with
        | true =>
          refine iteT ?_
          dsimp only at p2
          have p3 := PostS.ext x2 p2
          refine ⟨fun sg' H' => ∃ Hs' rh' e' m', SR X.K Hs' H' rh' sg' e' m' ∧ PostS X.K W Hs' H' rh' Dn (dWhile c b n e' m'), fun sg' H' h => ⟨n, Nat.lt_succ_self n, h⟩, rb Hs2 H2 rh2 sg1 e1 m2 _ s2 ?_⟩
          cases qb : b e1 m2 with
          | nx e4 m4 => rw [qb] at p3; exact fun sg' Hs' H' rh' x' s' => ⟨Hs', rh', e4, m4, s', PostS.ext x' p3⟩
          | cnt e4 m4 => rw [qb] at p3; exact fun sg' Hs' H' rh' x' s' => ⟨Hs', rh', e4, m4, s', PostS.ext x' p3⟩
          | brk e4 m4 => rw [qb] at p3; exact p3
          | ret v e4 m4 => rw [qb] at p3; exact p3
          | exc c d e4 m4 => rw [qb] at p3; exact p3
          | stuck => rw [qb] at p3; exact p3.elim
        | false => exact iteF (p2 sg1 Hs2 H2 rh2 x2 s2)
      | exc cc d m2 => rw [q] at p2; exact fun dx v Hs' H' rh' y s q r => p2 dx v sg1 Hs' H' rh' y s q r
      | stuck => rw [q] at p2; exact p2.elim
  · rw [dif_neg hx] at z
    exact z.elim
end
end DL
set_option maxHeartbeats 4000000
namespace DL
open PySem PySem.Spec PyProof.Rows L2
/-! ## What is read of lists and tuples -/
/-- the items of a list, a local one too -/
@[simp] def asL (m : Mu) : Va → Option (List D)
  | .d (.lst ds) => some ds
  | .d (.scr ns) => some (ns.map .int)
  | .l n => (match m[n]? with
    | some (some (.lst ds)) => some ds
    | _ => none)
  | _ => none
@[simp] def asT : Va → Option (List D)
  | .d (.tup ds) => some ds
  | _ => none
section
variable {K : PySem.W.Frag} {Hs H Hs1 H1 : Hp} {rh : List Addr} {W : WX} {sg : St2} {et : Env} {m : Mu} {x : Va} {v : V} {ds : List D}
theorem reps_ints : ∀ {ns : List Int}, Reps K Hs (ns.map .int) (ns.map V.int)
  | [] => reps_nil.mpr rfl
  | n :: ns => reps_cons.mpr ⟨rint K Hs n, reps_ints⟩
theorem asL_rd (s : SC K Hs H rh m) (r : RepA K Hs rh x v) (e : asL m x = some ds) : ∃ a vs, v = .ref a ∧ SqL K H a vs ∧ Reps K Hs ds vs := by
  cases x with
  | d x =>
    cases x with
    | lst xs =>
      cases e
      have r' : Rep K Hs (.lst ds) v := r
      simp only [Rep] at r'
      obtain ⟨a, vs, e1, e2, e3⟩ := r'
      exact ⟨a, vs, e1, SqL.of (s.same _ _ e2), e3⟩
    | scr ns =>
      cases e
      have r' : Rep K Hs (.scr ns) v := r
      simp only [Rep] at r'
      obtain ⟨a, e1, e2⟩ := r'
      exact ⟨a, _, e1, Same.seq s.same e2, reps_ints⟩
    | _ => cases e
  | l n =>
    obtain ⟨a, e1, rfl⟩ := r
    unfold asL at e
    dsimp only at e
    split at e
    · rename_i ds' q
      cases e
      obtain ⟨a', o, q1, q2, q3, q4⟩ := s.cell n _ q
      rw [e1] at q1
      cases q1
      obtain ⟨vs, rfl, h⟩ := q4
      exact ⟨a, vs, rfl, SqL.of q3, h⟩
    · cases e
/-- .. as it stands in H -/
theorem asL_at (s : SC K Hs H rh m) (r : RepA K Hs rh x v) (e : asL m x = some ds) (ns : ∀ z, x ≠ .d (.scr z)) : ∃ a vs, v = .ref a ∧ H a = some (.lst vs) ∧ Reps K Hs ds vs := by
  cases x with
  | d x =>
    cases x with
    | lst xs =>
      cases e
      have r' : Rep K Hs (.lst ds) v := r
      simp only [Rep] at r'
      obtain ⟨a, vs, e1, e2, e3⟩ := r'
      exact ⟨a, vs, e1, s.same _ _ e2, e3⟩
    | scr z => exact absurd rfl (ns z)
    | _ => cases e
  | l n =>
    obtain ⟨a, e1, rfl⟩ := r
    unfold asL at e
    dsimp only at e
    split at e
    · rename_i ds' q
      cases e
      obtain ⟨a', o, q1, q2, q3, q4⟩ := s.cell n _ q
      rw [e1] at q1
      cases q1
      obtain ⟨vs, rfl, h⟩ := q4
      exact ⟨a, vs, rfl, q3, h⟩
    · cases e
theorem asT_rd (s : SC K Hs H rh m) (r : RepA K Hs rh x v) (e : asT x = some ds) : ∃ a vs, v = .ref a ∧ SqT K H a vs ∧ Reps K Hs ds vs := by
  cases x with
  | d x =>
    cases x with
    | tup xs =>
      cases e
      have r' : Rep K Hs (.tup ds) v := r
      simp only [Rep] at r'
      obtain ⟨a, vs, e1, e2, e3⟩ := r'
      exact ⟨a, vs, e1, Same.seqT s.same e2, e3⟩
    | _ => cases e
  | l n => cases e
/-- a new tuple -/
theorem Post.tupNew {Q : VK} {vs : List V} (s : SR K Hs H rh sg et m) (r : Reps K Hs ds vs) (p : Post K W (RlA K) Hs H rh sg et Q (.ok (.d (.tup ds)) m)) : ∀ a, H a = none → Q (.ref a) (upd H a (.tup vs)) := fun a ha => by
  obtain ⟨c, x, sm⟩ := s.sc.laid (o := .tup vs) ha
  refine p (.ref a) _ _ _ x (s.ext x c) ?_
  show Rep K _ (.tup ds) (.ref a)
  simp only [Rep]
  exact ⟨a, vs, rfl, SqT.of upd_same, r.mono sm⟩
end
/-! ## Numbers, texts, tuples by operators -/
@[simp] def iOp (g : Int → Int → Int) : Va → Va → Mu → R Va := fun x y m => match x, y with
  | .d (.int i), .d (.int j) => .ok (.d (.int (g i j))) m
  | _, _ => .stuck
open Classical in
@[simp] noncomputable def iOpC (C : Int → Int → Prop) (g : Int → Int → Int) : Va → Va → Mu → R Va := fun x y m => match x, y with
  | .d (.int i), .d (.int j) => if C i j then .ok (.d (.int (g i j))) m else .stuck
  | _, _ => .stuck
@[simp] def bOp (g : Int → Int → Bool) : Va → Va → Mu → R Va := fun x y m => match x, y with
  | .d (.int i), .d (.int j) => .ok (.d (.bl (g i j))) m
  | _, _ => .stuck
section
variable {X : Cx}
theorem opS_i {f : Value → Value → Sem Value} {g : Int → Int → Int} (h : OpR X f (rI0 fun i j => .int (g i j))) : OpS X f (iOp g) := by
  refine ⟨_, h, fun W Hs H rh sg et m x y u v Q s r1 r2 p => ?_⟩
  unfold iOp at p
  split at p
  · exact ⟨_, _, va_int r1, va_int r2, Post.ok_ p .refl s mk_int⟩
  · exact p.elim
theorem opS_iC {f : Value → Value → Sem Value} {C : Int → Int → Prop} {g : Int → Int → Int} (h : OpR X f (rI C fun i j => .int (g i j))) : OpS X f (iOpC C g) := by
  refine ⟨_, h, fun W Hs H rh sg et m x y u v Q s r1 r2 p => ?_⟩
  unfold iOpC at p
  split at p
  · rename_i i j
    by_cases c : C i j
    · rw [if_pos c] at p
      exact ⟨_, _, va_int r1, va_int r2, c, Post.ok_ p .refl s mk_int⟩
    · rw [if_neg c] at p
      exact p.elim
  · exact p.elim
theorem opS_b {f : Value → Value → Sem Value} {g : Int → Int → Bool} (h : OpR X f (rI0 fun i j => .bl (g i j))) : OpS X f (bOp g) := by
  refine ⟨_, h, fun W Hs H rh sg et m x y u v Q s r1 r2 p => ?_⟩
  unfold bOp at p
  split at p
  · exact ⟨_, _, va_int r1, va_int r2, Post.ok_ p .refl s mk_bl⟩
  · exact p.elim
@[simp] def oSub := iOp fun i j => i - j
@[simp] noncomputable def oFdiv := iOpC CDivN fun i j => i.fdiv j
@[simp] noncomputable def oMod := iOpC (fun _ j => j ≠ 0) fun i j => i.fmod j
@[simp] noncomputable def oPow := iOpC CPow fun i j => i ^ j.toNat
@[simp] def oLt := bOp fun i j => decide (i < j)
@[simp] def oLe := bOp fun i j => decide (i ≤ j)
@[simp] def oGt := bOp fun i j => decide (j < i)
@[simp] def oGe := bOp fun i j => decide (j ≤ i)
theorem os_sub : OpS X (binaryOp .Sub) oSub := opS_i op_sub
theorem os_fdiv : OpS X (binaryOp .FloorDiv) oFdiv := opS_iC op_fdivN
theorem os_mod : OpS X (binaryOp .Mod) oMod := opS_iC op_modN
theorem os_pow : OpS X (binaryOp .Pow) oPow := opS_iC op_pow
theorem os_lt : OpS X (compareOp .Lt) oLt := opS_b op_lt
theorem os_le : OpS X (compareOp .LtE) oLe := opS_b op_le
theorem os_gt : OpS X (compareOp .Gt) oGt := opS_b op_gt
theorem os_ge : OpS X (compareOp .GtE) oGe := opS_b op_ge
/-- +: numbers, texts, tuples -/
@[simp] def oAdd : Va → Va → Mu → R Va := fun x y m => match x, y with
  | .d (.int i), .d (.int j) => .ok (.d (.int (i + j))) m
  | .d (.str a), .d (.str b) => if a.length + b.length ≤ sizeLine then .ok (.d (.str (a ++ b))) m else .stuck
  | .d (.tup a), .d (.tup b) => if a.length + b.length ≤ sizeLine then .ok (.d (.tup (a ++ b))) m else .stuck
  | _, _ => .stuck
theorem os_add : OpS X (binaryOp .Add) oAdd := by
  refine ⟨_, op_add.or (op_add_str.or op_catA), fun W Hs H rh sg et m x y u v Q s r1 r2 p => ?_⟩
  unfold oAdd at p
  split at p
  · exact .inl ⟨_, _, va_int r1, va_int r2, Post.ok_ p .refl s mk_int⟩
  · rename_i a b
    by_cases c : a.length + b.length ≤ sizeLine
    · rw [if_pos c] at p
      exact .inr (.inl ⟨_, _, va_str r1, va_str r2, c, Post.ok_ p .refl s mk_str⟩)
    · rw [if_neg c] at p
      exact p.elim
  · rename_i a b
    by_cases c : a.length + b.length ≤ sizeLine
    · rw [if_pos c] at p
      obtain ⟨a1, vs, rfl, q1, h1⟩ := asT_rd s.sc r1 rfl
      obtain ⟨a2, us, rfl, q2, h2⟩ := asT_rd s.sc r2 rfl
      refine .inr (.inr ⟨a1, a2, vs, us, rfl, rfl, q1, q2, by rw [h1.length, h2.length]; exact c, fun e => ?_, fun _ e => ?_, fun _ _ => Post.tupNew s (h1.append h2) p⟩)
      · have e' : a = [] := by
          have := h1.length
          rw [e] at this
          exact List.length_eq_zero_iff.mp this.symm
        subst e'
        exact p (.ref a2) Hs H rh .refl s r2
      · have e' : b = [] := by
          have := h2.length
          rw [e] at this
          exact List.length_eq_zero_iff.mp this.symm
        subst e'
        rw [List.append_nil] at p
        exact p (.ref a1) Hs H rh .refl s r1
    · rw [if_neg c] at p
      exact p.elim
  · exact p.elim
open Classical in
/-- *: numbers, a tuple so many times -/
@[simp] noncomputable def oMul : Va → Va → Mu → R Va := fun x y m => match x, y with
  | .d (.int i), .d (.int j) => if CMul i j then .ok (.d (.int (i * j))) m else .stuck
  | .d (.tup a), .d (.int k) => if a ≠ [] ∧ 2 ≤ k ∧ k ≤ 1000 ∧ a.length ≤ 1000 then .ok (.d (.tup (List.replicate k.toNat a).flatten)) m else .stuck
  | _, _ => .stuck
theorem reps_rep {K : PySem.W.Frag} {Hs : Hp} {ds : List D} {vs : List V} (h : Reps K Hs ds vs) : ∀ n : Nat, Reps K Hs (List.replicate n ds).flatten (List.replicate n vs).flatten
  | 0 => reps_nil.mpr rfl
  | n + 1 => by
    rw [List.replicate_succ, List.replicate_succ, List.flatten_cons, List.flatten_cons]
    exact h.append (reps_rep h n)
theorem os_mul : OpS X (binaryOp .Mult) oMul := by
  refine ⟨_, op_mul.or op_repT, fun W Hs H rh sg et m x y u v Q s r1 r2 p => ?_⟩
  unfold oMul at p
  split at p
  · rename_i i j
    by_cases c : CMul i j
    · rw [if_pos c] at p
      exact .inl ⟨_, _, va_int r1, va_int r2, c, Post.ok_ p .refl s mk_int⟩
    · rw [if_neg c] at p
      exact p.elim
  · rename_i a k
    by_cases c : a ≠ [] ∧ 2 ≤ k ∧ k ≤ 1000 ∧ a.length ≤ 1000
    · rw [if_pos c] at p
      obtain ⟨a1, vs, rfl, q1, h1⟩ := asT_rd s.sc r1 rfl
      refine .inr ⟨a1, k, vs, rfl, va_int r2, q1, fun e => c.1 ?_, c.2.1, c.2.2.1, by rw [h1.length]; exact c.2.2.2, Post.tupNew s (reps_rep h1 _) p⟩
      have := h1.length
      rw [e] at this
      exact List.length_eq_zero_iff.mp this.symm
    · rw [if_neg c] at p
      exact p.elim
  · exact p.elim
end
/-! ## Equality, None, in -/
mutual
@[simp] def pd : D → Option PyData
  | .non => some .none
  | .bl b => some (.bool b)
  | .int i => some (.int i)
  | .str x => some (.str x)
  | .tup ds => (pds ds).map .tuple
  | .lst ds => (pds ds).map .list
  | _ => none
@[simp] def pds : List D → Option (List PyData)
  | [] => some []
  | d :: ds => (match pd d, pds ds with
    | some a, some b => some (a :: b)
    | _, _ => none)
end
@[simp] def pdA (m : Mu) : Va → Option PyData
  | .d x => pd x
  | .l n => (match m[n]? with
    | some (some (.lst ds)) => (pds ds).map .list
    | _ => none)
section
variable {K : PySem.W.Frag} {Hs H : Hp}
mutual
theorem pd_dp : ∀ {d : D} {v : V} {p : PyData}, Rep K H d v → pd d = some p → Dp K H v p
  | .non, v, p, h, e => by
    cases e
    rw [rep_non h]
    exact .non
  | .bl b, v, p, h, e => by
    cases e
    rw [rep_bl h]
    exact .bl b
  | .int b, v, p, h, e => by
    cases e
    rw [rep_int h]
    exact .int b
  | .str b, v, p, h, e => by
    cases e
    rw [rep_str h]
    exact .str b
  | .tup ds, v, p, h, e => by
    simp only [Rep] at h
    obtain ⟨a, vs, rfl, e2, e3⟩ := h
    unfold pd at e
    cases q : pds ds with
    | none => rw [q] at e; cases e
    | some ps =>
      rw [q] at e
      cases e
      exact .tup e2 (pds_dp e3 q)
  | .lst ds, v, p, h, e => by
    simp only [Rep] at h
    obtain ⟨a, vs, rfl, e2, e3⟩ := h
    unfold pd at e
    cases q : pds ds with
    | none => rw [q] at e; cases e
    | some ps =>
      rw [q] at e
      cases e
      exact .lst (SqL.of e2) (pds_dp e3 q)
  | .obj c fs, v, p, h, e => by cases e
  | .dct c, v, p, h, e => by cases e
  | .scr c, v, p, h, e => by cases e
  | .ty c, v, p, h, e => by cases e
  | .cls c, v, p, h, e => by cases e
  | .exn a dd c x, v, p, h, e => by cases e
theorem pds_dp : ∀ {ds : List D} {vs : List V} {ps : List PyData}, Reps K H ds vs → pds ds = some ps → DpAll K H vs ps
  | [], vs, ps, h, e => by
    cases e
    rw [reps_nil.mp h]
    exact .nil
  | d :: ds, vs, ps, h, e => by
    simp only [Reps] at h
    obtain ⟨v, r, rfl, h1, h2⟩ := h
    unfold pds at e
    cases q : pd d with
    | none => rw [q] at e; cases e
    | some a =>
      cases q2 : pds ds with
      | none => rw [q, q2] at e; cases e
      | some b =>
        rw [q, q2] at e
        cases e
        exact .cons (pd_dp h1 q) (pds_dp h2 q2)
end
theorem pdA_dp {rh : List Addr} {m : Mu} {x : Va} {v : V} {p : PyData} (s : SC K Hs H rh m) (r : RepA K Hs rh x v) (e : pdA m x = some p) : Dp K H v p := by
  cases x with
  | d x => exact pd_dp (Rep.mono s.same r) e
  | l n =>
    obtain ⟨a, e1, rfl⟩ := r
    unfold pdA at e
    dsimp only at e
    split at e
    · rename_i ds q
      obtain ⟨a', o, q1, q2, q3, q4⟩ := s.cell n _ q
      rw [e1] at q1
      cases q1
      obtain ⟨vs, rfl, h⟩ := q4
      cases q5 : pds ds with
      | none => rw [q5] at e; cases e
      | some ps =>
        rw [q5] at e
        cases e
        exact .lst (SqL.of q3) (pds_dp (h.mono s.same) q5)
    · cases e
end
@[simp] def oEqG (neg : Bool) : Va → Va → Mu → R Va := fun x y m => match pdA m x, pdA m y with
  | some a, some b => if (SeqAt.shaped a && SeqAt.shaped b) = true then .ok (.d (.bl (if neg = true then !PyData.eqv a b else PyData.eqv a b))) m else .stuck
  | _, _ => .stuck
abbrev oEq := oEqG false
abbrev oNe := oEqG true
section
variable {X : Cx}
theorem os_eq (hu : X.A.units + 64 < cLine) : OpS X (compareOp .Eq) oEq := by
  refine ⟨_, op_eqD hu, fun W Hs H rh sg et m x y u v Q s r1 r2 p => ?_⟩
  unfold oEq oEqG at p
  split at p
  · rename_i a b ea eb
    by_cases c : (SeqAt.shaped a && SeqAt.shaped b) = true
    · rw [if_pos c] at p
      have c' := Bool.and_eq_true_iff.mp c
      exact ⟨a, b, pdA_dp s.sc r1 ea, pdA_dp s.sc r2 eb, c'.1, c'.2, Post.ok_ p .refl s mk_bl⟩
    · rw [if_neg c] at p
      exact p.elim
  · exact p.elim
theorem os_ne (hu : X.A.units + 64 < cLine) : OpS X (compareOp .NotEq) oNe := by
  refine ⟨_, op_neD hu, fun W Hs H rh sg et m x y u v Q s r1 r2 p => ?_⟩
  unfold oNe oEqG at p
  split at p
  · rename_i a b ea eb
    by_cases c : (SeqAt.shaped a && SeqAt.shaped b) = true
    · rw [if_pos c] at p
      have c' := Bool.and_eq_true_iff.mp c
      exact ⟨a, b, pdA_dp s.sc r1 ea, pdA_dp s.sc r2 eb, c'.1, c'.2, Post.ok_ p .refl s mk_bl⟩
    · rw [if_neg c] at p
      exact p.elim
  · exact p.elim
@[simp] def isNonV : Va → Bool
  | .d .non => true
  | _ => false
theorem isNon_rep {K : PySem.W.Frag} {Hs : Hp} {rh : List Addr} {x : Va} {v : V} (r : RepA K Hs rh x v) : decide (v = .non) = isNonV x := by
  cases x with
  | l n =>
    obtain ⟨a, _, rfl⟩ := r
    rfl
  | d x =>
    cases x with
    | non => rw [va_non r]; rfl
    | bl b => rw [va_bl r]; rfl
    | int b => rw [va_int r]; rfl
    | str b => rw [va_str r]; rfl
    | tup ds => have r' : Rep K Hs (.tup ds) v := r; simp only [Rep] at r'; obtain ⟨a, _, rfl, _⟩ := r'; rfl
    | lst ds => have r' : Rep K Hs (.lst ds) v := r; simp only [Rep] at r'; obtain ⟨a, _, rfl, _⟩ := r'; rfl
    | obj c fs => have r' : Rep K Hs (.obj c fs) v := r; simp only [Rep] at r'; obtain ⟨a, _, _, rfl, _⟩ := r'; rfl
    | dct ds => have r' : Rep K Hs (.dct ds) v := r; simp only [Rep] at r'; obtain ⟨a, _, _, rfl, _⟩ := r'; rfl
    | scr ns => have r' : Rep K Hs (.scr ns) v := r; simp only [Rep] at r'; obtain ⟨a, rfl, _⟩ := r'; rfl
    | ty n => have r' : Rep K Hs (.ty n) v := r; simp only [Rep] at r'; subst r'; rfl
    | cls n => have r' : Rep K Hs (.cls n) v := r; simp only [Rep] at r'; subst r'; rfl
    | exn a dd c x => have r' : Rep K Hs (.exn a dd c x) v := r; simp only [Rep] at r'; obtain ⟨rfl, _⟩ := r'; rfl
    | dtn w kvs => have r' : Rep K Hs (.dtn w kvs) v := r; simp only [Rep] at r'; obtain ⟨a, _, rfl, _⟩ := r'; rfl
/-- x is None; x is not None -/
@[simp] def oIsN : Va → Va → Mu → R Va := fun x y m => match y with
  | .d .non => .ok (.d (.bl (isNonV x))) m
  | _ => .stuck
@[simp] def oNotN : Va → Va → Mu → R Va := fun x y m => match y with
  | .d .non => .ok (.d (.bl (!isNonV x))) m
  | _ => .stuck
theorem os_isN : OpS X (compareOp .Is) oIsN := by
  refine ⟨_, op_isN, fun W Hs H rh sg et m x y u v Q s r1 r2 p => ?_⟩
  unfold oIsN at p
  split at p
  · refine ⟨va_non r2, ?_⟩
    rw [isNon_rep r1]
    exact Post.ok_ p .refl s mk_bl
  · exact p.elim
theorem os_notN : OpS X (compareOp .IsNot) oNotN := by
  refine ⟨_, op_notN, fun W Hs H rh sg et m x y u v Q s r1 r2 p => ?_⟩
  unfold oNotN at p
  split at p
  · refine ⟨va_non r2, ?_⟩
    rw [isNon_rep r1]
    exact Post.ok_ p .refl s mk_bl
  · exact p.elim
/-- in, not in: a list or a tuple of data, a text in a text -/
@[simp] def inG (neg : Bool) (b : Bool) : Bool := if neg = true then !b else b
@[simp] def oInG (neg : Bool) : Va → Va → Mu → R Va := fun x y m => match pdA m x, pdA m y with
  | some a, some (.list ds) => if (SeqAt.shaped a && SeqAt.shaped (.list ds)) = true then .ok (.d (.bl (inG neg (ds.any fun z => PyData.eqv z a)))) m else .stuck
  | some a, some (.tuple ds) => if (SeqAt.shaped a && SeqAt.shaped (.tuple ds)) = true then .ok (.d (.bl (inG neg (ds.any fun z => PyData.eqv z a)))) m else .stuck
  | some (.str a), some (.str b) => .ok (.d (.bl (inG neg (!(Builtin.Str.occurrences b a 0 b.length 1).isEmpty)))) m
  | _, _ => .stuck
def rInT (K : PySem.W.Frag) (neg : Bool) : R2 := fun x y H Q => ∃ d ds, Dp K H x d ∧ Dp K H y (.tuple ds) ∧ SeqAt.shaped d = true ∧ SeqAt.shaped (.tuple ds) = true ∧ Q (.bl (inG neg (ds.any fun z => PyData.eqv z d))) H
theorem op_inT (hu : X.A.units + 65 < cLine) : OpR X (compareOp .In) (rInT X.K false) := by
  intro pins s σ H x y v u Q I rx ry h
  obtain ⟨d, ds, hd, he, sd, se, q⟩ := h
  obtain ⟨as, r1⟩ := Dp.reads I d x v hd rx
  obtain ⟨bs, r2⟩ := Dp.reads I (.tuple ds) y u he ry
  exact SeqAt.in_tuple_reads r2 r1 (SeqAt.canLay_of_shaped se) (SeqAt.canLay_of_shaped sd) (room_in_shaped sd hu) ⟨.bl _, H, I, rfl, q⟩
theorem op_notInT (hu : X.A.units + 65 < cLine) : OpR X (compareOp .NotIn) (rInT X.K true) := by
  intro pins s σ H x y v u Q I rx ry h
  obtain ⟨d, ds, hd, he, sd, se, q⟩ := h
  obtain ⟨as, r1⟩ := Dp.reads I d x v hd rx
  obtain ⟨bs, r2⟩ := Dp.reads I (.tuple ds) y u he ry
  exact SeqAt.notIn_tuple_reads r2 r1 (SeqAt.canLay_of_shaped se) (SeqAt.canLay_of_shaped sd) (room_in_shaped sd hu) ⟨.bl _, H, I, rfl, q⟩
theorem in_read {neg : Bool} {W : WX} {Hs H : Hp} {rh : List Addr} {sg : St2} {et : Env} {m : Mu} {x y : Va} {u v : V} {Q : VK} (s : SR X.K Hs H rh sg et m) (r1 : RepA X.K Hs rh x u) (r2 : RepA X.K Hs rh y v) (p : Post X.K W (RlA X.K) Hs H rh sg et Q (oInG neg x y m)) :
    (∃ d ds, Dp X.K H u d ∧ Dp X.K H v (.list ds) ∧ SeqAt.shaped d = true ∧ SeqAt.shaped (.list ds) = true ∧ Q (.bl (inG neg (ds.any fun z => PyData.eqv z d))) H) ∨ rInT X.K neg u v H Q ∨ (∃ i j, u = .str i ∧ v = .str j ∧ Q (.bl (inG neg (!(Builtin.Str.occurrences j i 0 j.length 1).isEmpty))) H) := by
  unfold oInG at p
  split at p
  · rename_i a ds ea eb
    by_cases c : (SeqAt.shaped a && SeqAt.shaped (.list ds)) = true
    · rw [if_pos c] at p
      have c' := Bool.and_eq_true_iff.mp c
      exact .inl ⟨a, ds, pdA_dp s.sc r1 ea, pdA_dp s.sc r2 eb, c'.1, c'.2, Post.ok_ p .refl s mk_bl⟩
    · rw [if_neg c] at p
      exact p.elim
  · rename_i a ds ea eb
    by_cases c : (SeqAt.shaped a && SeqAt.shaped (.tuple ds)) = true
    · rw [if_pos c] at p
      have c' := Bool.and_eq_true_iff.mp c
      exact .inr (.inl ⟨a, ds, pdA_dp s.sc r1 ea, pdA_dp s.sc r2 eb, c'.1, c'.2, Post.ok_ p .refl s mk_bl⟩)
    · rw [if_neg c] at p
      exact p.elim
  · rename_i a b ea eb
    have e1 : u = .str a := by
      have := pdA_dp s.sc r1 ea
      cases this
      rfl
    have e2 : v = .str b := by
      have := pdA_dp s.sc r2 eb
      cases this
      rfl
    exact .inr (.inr ⟨a, b, e1, e2, Post.ok_ p .refl s mk_bl⟩)
  · exact p.elim
abbrev oIn := oInG false
abbrev oNotIn := oInG true
theorem os_in (hu : X.A.units + 65 < cLine) : OpS X (compareOp .In) oIn := ⟨_, (op_inD hu).or ((op_inT hu).or op_in_str), fun W Hs H rh sg et m x y u v Q s r1 r2 p => in_read s r1 r2 p⟩
theorem os_notIn (hu : X.A.units + 65 < cLine) : OpS X (compareOp .NotIn) oNotIn := ⟨_, (op_notInD hu).or ((op_notInT hu).or op_notIn_str), fun W Hs H rh sg et m x y u v Q s r1 r2 p => in_read s r1 r2 p⟩
/-- a < b < c -/
def xChain (o o' : Va → Va → Mu → R Va) (f g h : Env → Mu → R Va) : Env → Mu → R Va := fun et m => (f et m).bind fun x m => (g et m).bind fun y m => (o x y m).bind fun z m => (toB z m).bind fun b m => if b = true then (h et m).bind fun w m => o' y w m else .ok (.d (.bl false)) m
end
end DL
set_option maxHeartbeats 4000000
namespace DL
open PySem PySem.Spec PyProof.Rows L2
/-! ## Chains of comparisons -/
section
variable {X : Cx} {W : WX} {a b c e : Expr} {pos : Pos} {f g h : Env → Mu → R Va} {o o' : Va → Va → Mu → R Va}
theorem chain_read {ta tb tc : TE} {r r' : R2} (ra : ∀ Hs H rh sg et m Q, SR X.K Hs H rh sg et m → Post X.K W (RlA X.K) Hs H rh sg et Q (f et m) → ta sg H Q) (rb : ∀ Hs H rh sg et m Q, SR X.K Hs H rh sg et m → Post X.K W (RlA X.K) Hs H rh sg et Q (g et m) → tb sg H Q) (rc : ∀ Hs H rh sg et m Q, SR X.K Hs H rh sg et m → Post X.K W (RlA X.K) Hs H rh sg et Q (h et m) → tc sg H Q)
    {Hs H : Hp} {rh : List Addr} {sg : St2} {et : Env} {m : Mu} {Q : VK} (s : SR X.K Hs H rh sg et m) (ro : ∀ W Hs H rh sg et m x y u v Q, SR X.K Hs H rh sg et m → RepA X.K Hs rh x u → RepA X.K Hs rh y v → Post X.K W (RlA X.K) Hs H rh sg et Q (o x y m) → r u v H Q) (ro' : ∀ W Hs H rh sg et m x y u v Q, SR X.K Hs H rh sg et m → RepA X.K Hs rh x u → RepA X.K Hs rh y v → Post X.K W (RlA X.K) Hs H rh sg et Q (o' x y m) → r' u v H Q) (p : Post X.K W (RlA X.K) Hs H rh sg et Q (xChain o o' f g h et m)) : tChain r r' ta tb tc sg H Q := by
  unfold xChain at p
  refine ra Hs H rh sg et m _ s (Post.step p fun x m1 u Hs1 H1 rh1 x1 s1 r1 p1 => ?_)
  refine rb Hs1 H1 rh1 sg et m1 _ s1 (Post.step p1 fun y m2 v Hs2 H2 rh2 x2 s2 r2 p2 => ?_)
  refine ro W Hs2 H2 rh2 sg et m2 x y u v _ s2 (r1.ext x2) r2 (Post.step p2 fun z m3 t Hs3 H3 rh3 x3 s3 r3 p3 => ?_)
  rcases toB_cases (x := z) (m := m3) with ⟨k, rfl, e⟩ | e
  · rw [e] at p3
    refine ⟨k, va_bl r3, ?_⟩
    cases k with
    | false => exact iteF (Post.ok_ (m := m3) (d := Va.d (.bl false)) (by simpa [R.bind] using p3) .refl s3 mk_bl)
    | true =>
      have p4 : Post X.K W (RlA X.K) Hs3 H3 rh3 sg et Q ((h et m3).bind fun w m => o' y w m) := by simpa [R.bind] using p3
      refine iteT (rc Hs3 H3 rh3 sg et m3 _ s3 (Post.step p4 fun w m4 t4 Hs4 H4 rh4 x4 s4 r4 p5 => ?_))
      exact ro' W Hs4 H4 rh4 sg et m4 y w v t4 Q s4 (r2.ext (x3.trans x4)) r4 p5
  · rw [e] at p3
    exact p3.elim
theorem se_chain {op op' : CmpOp} (ho : OpS X (compareOp op) o) (ho' : OpS X (compareOp op') o') (ha : SE X W a f) (hb : SE X W b g) (hc : SE X W c h) (hm : lastMarks [op, op'] [b, c] = false := by with_unfolding_all rfl) : SE X W (.Compare a [op, op'] [b, c] pos) (xChain o o' f g h) := by
  obtain ⟨r, k, ro⟩ := ho
  obtain ⟨r', k', ro'⟩ := ho'
  obtain ⟨ta, ha, ra⟩ := ha
  obtain ⟨tb, hb, rb⟩ := hb
  obtain ⟨tc, hc, rc⟩ := hc
  exact ⟨_, pe_chain k k' ha hb hc hm, fun Hs H rh sg et m Q s p => chain_read ra rb rc s ro ro' p⟩
theorem st_chain {op op' : CmpOp} (ho : OpS X (compareOp op) o) (ho' : OpS X (compareOp op') o') (ha : SE X W a f) (hb : SE X W b g) (hc : SE X W c h) (hm : lastMarks [op, op'] [b, c] = false := by with_unfolding_all rfl) : ST X W (.Compare a [op, op'] [b, c] pos) (xTst (xChain o o' f g h)) := by
  obtain ⟨r, k, ro⟩ := ho
  obtain ⟨r', k', ro'⟩ := ho'
  obtain ⟨ta, ha, ra⟩ := ha
  obtain ⟨tb, hb, rb⟩ := hb
  obtain ⟨tc, hc, rc⟩ := hc
  exact ⟨_, pt_chain k k' ha hb hc hm, fun Hs H rh sg et m Q s p => toB_read (W := W) (te := tChain r r' ta tb tc) (f := xChain o o' f g h) (fun Hs H rh sg et m Q s p => chain_read ra rb rc s ro ro' p) s p⟩
end
/-! ## Fresh lists -/
section
variable {K : PySem.W.Frag} {Hs H Hs1 H1 : Hp} {rh rh1 : List Addr} {W : WX} {sg : St2} {et : Env} {m : Mu} {ds : List D} {v : V}
theorem RlF.frz (x : Ext Hs H rh Hs1 H1 rh1) (s : SR K Hs1 H1 rh1 sg et m) (r : RlF K H Hs1 H1 rh1 ds v) : ∃ Hs2, Ext Hs H rh Hs2 H1 rh1 ∧ SR K Hs2 H1 rh1 sg et m ∧ RepA K Hs2 rh1 (.d (.lst ds)) v := by
  obtain ⟨p, vs, rfl, h1, h2, h3, h4, h5⟩ := r
  have sm : Same Hs1 (upd Hs1 p (.lst vs)) := fun b u e => by rw [upd_ne (ne_of_none e h2)]; exact e
  have x2 : Ext Hs H rh (upd Hs1 p (.lst vs)) H1 rh1 := ⟨x.sub.trans sm, x.pre, x.keep, x.there, x.new, fun b hb => by
    by_cases e : b = p
    · exact .inr (.inl (by rw [e]; exact h1))
    · rw [upd_ne e] at hb
      exact x.froz b hb⟩
  refine ⟨_, x2, ⟨⟨fun b u e => ?_, s.sc.mlen, fun n c e => ?_, s.sc.nd, s.sc.old⟩, s.len, fun i d e => ?_⟩, ?_⟩
  · by_cases q : b = p
    · subst q
      rw [upd_same] at e
      cases e
      exact h4
    · rw [upd_ne q] at e
      exact s.sc.same b u e
  · obtain ⟨a, o, e1, e2, e3, e4⟩ := s.sc.cell n c e
    have ne : a ≠ p := fun z => h3 (by rw [← z]; exact List.mem_of_getElem? e1)
    exact ⟨a, o, e1, by rw [upd_ne ne]; exact e2, e3, e4.mono sm (List.prefix_refl _)⟩
  · obtain ⟨u, e1, e2⟩ := s.val i d e
    exact ⟨u, e1, e2.mono sm (List.prefix_refl _)⟩
  · show Rep K _ (.lst ds) (.ref p)
    simp only [Rep]
    exact ⟨p, vs, rfl, upd_same, h5.mono sm⟩
theorem RlF.cel (x : Ext Hs H rh Hs1 H1 rh1) (s : SR K Hs1 H1 rh1 sg et m) (r : RlF K H Hs1 H1 rh1 ds v) : ∃ rh2, Ext Hs H rh Hs1 H1 rh2 ∧ SR K Hs1 H1 rh2 sg et (m ++ [some (.lst ds)]) ∧ RepA K Hs1 rh2 (.l m.length) v := by
  obtain ⟨p, vs, rfl, h1, h2, h3, h4, h5⟩ := r
  have pf : rh1 <+: rh1 ++ [p] := List.prefix_append _ _
  have ml := s.sc.mlen
  have x2 : Ext Hs H rh Hs1 H1 (rh1 ++ [p]) := ⟨x.sub, x.pre.trans pf, x.keep, x.there, fun b hb => by
    rcases List.mem_append.mp hb with z | z
    · exact x.new b z
    · have e : b = p := by simpa using z
      exact .inr (by rw [e]; exact h1), x.froz⟩
  refine ⟨rh1 ++ [p], x2, ⟨⟨s.sc.same, by rw [List.length_append, List.length_append, ml]; rfl, fun n c e => ?_, ?_, fun a ha => ?_⟩, s.len, fun i d e => ?_⟩, ?_⟩
  · by_cases hn : n < m.length
    · rw [List.getElem?_append_left hn] at e
      obtain ⟨a, o, e1, e2, e3, e4⟩ := s.sc.cell n c e
      exact ⟨a, o, by rw [List.getElem?_append_left (by rw [← ml]; exact hn)]; exact e1, e2, e3, e4.mono (.refl _) pf⟩
    · have hl : n = m.length := by
        have q := (List.getElem?_eq_some_iff.mp e).1
        rw [List.length_append, List.length_singleton] at q
        omega
      subst hl
      rw [List.getElem?_concat_length] at e
      cases e
      exact ⟨p, _, by rw [ml]; simp, h2, h4, vs, rfl, h5⟩
  · rw [List.nodup_append]
    exact ⟨s.sc.nd, by simp, fun a ha b hb z => h3 (by simp at hb; rw [← hb, ← z]; exact ha)⟩
  · rcases List.mem_append.mp ha with z | z
    · exact s.sc.old a z
    · have e : a = p := by simpa using z
      rw [e, h4]
      exact fun z => nomatch z
  · obtain ⟨u, e1, e2⟩ := s.val i d e
    exact ⟨u, e1, e2.mono (.refl _) pf⟩
  · exact ⟨p, by rw [ml]; simp, rfl⟩
theorem RlF.new {vs : List V} (x : Ext Hs H rh Hs1 H1 rh1) (s : SR K Hs1 H1 rh1 sg et m) {p : Addr} (hp : H1 p = none) (r : Reps K Hs1 ds vs) : Ext Hs H rh Hs1 (upd H1 p (.lst vs)) rh1 ∧ SR K Hs1 (upd H1 p (.lst vs)) rh1 sg et m ∧ RlF K H Hs1 (upd H1 p (.lst vs)) rh1 ds (.ref p) := by
  have hs1 : Hs1 p = none := s.sc.same.free hp
  have h0 : H p = none := Classical.byContradiction fun z => x.there p z hp
  have hr : p ∉ rh1 := fun z => s.sc.old p z hp
  refine ⟨⟨x.sub, x.pre, fun b o e n => by rw [upd_ne (fun z => by rw [z, h0] at e; cases e)]; exact x.keep b o e n, fun b hb => ?_, x.new, x.froz⟩, ⟨⟨fun b u e => by rw [upd_ne (ne_of_none (s.sc.same b u e) hp)]; exact s.sc.same b u e, s.sc.mlen, fun n c e => ?_, s.sc.nd, fun a ha => ?_⟩, s.len, s.val⟩, p, vs, rfl, h0, hs1, hr, upd_same, r⟩
  · by_cases q : b = p
    · rw [q, upd_same]
      exact fun z => nomatch z
    · rw [upd_ne q]
      exact x.there b hb
  · obtain ⟨a, o, e1, e2, e3, e4⟩ := s.sc.cell n c e
    exact ⟨a, o, e1, e2, by rw [upd_ne (ne_of_none e3 hp)]; exact e3, e4⟩
  · by_cases q : a = p
    · rw [q, upd_same]
      exact fun z => nomatch z
    · rw [upd_ne q]
      exact s.sc.old a ha
theorem Post.lstNew {H0 Hs0 : Hp} {rh0 : List Addr} {Q : VK} {vs : List V} (x : Ext Hs0 H0 rh0 Hs H rh) (s : SR K Hs H rh sg et m) (r : Reps K Hs ds vs) (p : Post K W (RlF K H0) Hs H rh sg et Q (.ok ds m)) : ∀ a, H a = none → Q (.ref a) (upd H a (.lst vs)) := fun a ha => by
  obtain ⟨h1, h2, _⟩ := RlF.new (H := H) (Hs := Hs) (rh := rh) .refl s ha r
  obtain ⟨_, _, h3⟩ := RlF.new x s ha r
  exact p (.ref a) _ _ _ h1 h2 h3
end
def xFrz (f : Env → Mu → R (List D)) : Env → Mu → R Va := fun et m => (f et m).bind fun ds m => .ok (.d (.lst ds)) m
def xCel (f : Env → Mu → R (List D)) : Env → Mu → R Va := fun et m => (f et m).bind fun ds m => .ok (.l m.length) (m ++ [some (.lst ds)])
section
variable {X : Cx} {W : WX} {a b e : Expr} {es : List Expr} {pos : Pos} {f g : Env → Mu → R Va} {fl : Env → Mu → R (List D)} {fa : Env → Mu → R (List Va)}
theorem sf_frz (h : SF X W e fl) : SE X W e (xFrz fl) := by
  obtain ⟨t, h, r⟩ := h
  refine ⟨t, h, fun Hs H rh sg et m Q s p => r Hs H rh sg et m Q s ?_⟩
  unfold xFrz at p
  refine Post.stepS p fun ds m1 v Hs1 H1 rh1 x1 s1 r1 p1 => ?_
  obtain ⟨Hs2, x2, s2, r2⟩ := RlF.frz x1 s1 r1
  exact p1 v Hs2 H1 rh1 x2 s2 r2
theorem sf_cel (h : SF X W e fl) : SE X W e (xCel fl) := by
  obtain ⟨t, h, r⟩ := h
  refine ⟨t, h, fun Hs H rh sg et m Q s p => r Hs H rh sg et m Q s ?_⟩
  unfold xCel at p
  refine Post.stepS p fun ds m1 v Hs1 H1 rh1 x1 s1 r1 p1 => ?_
  obtain ⟨rh2, x2, s2, r2⟩ := RlF.cel x1 s1 r1
  exact p1 v Hs1 H1 rh2 x2 s2 r2
/-! displays -/
def xLst (fa : Env → Mu → R (List Va)) : Env → Mu → R (List D) := fun et m => (fa et m).bind fun as m => match datas as with
  | some ds => if ds.length ≤ sizeLine then .ok ds m else .stuck
  | none => .stuck
theorem sf_lst (h : SA X W es fa) : SF X W (.List es pos) (xLst fa) := by
  obtain ⟨t, h, r⟩ := h
  refine ⟨_, pe_lst h, fun Hs H rh sg et m Q s p => ?_⟩
  unfold xLst at p
  refine r Hs H rh sg et m _ s (Post.step p fun as m1 vs Hs1 H1 rh1 x1 s1 r1 p1 => ?_)
  cases q : datas as with
  | none => rw [q] at p1; exact p1.elim
  | some ds =>
    rw [q] at p1
    dsimp only at p1
    have rd := reps_datas r1 q
    by_cases c : ds.length ≤ sizeLine
    · rw [if_pos c] at p1
      exact ⟨by rw [rd.length]; exact c, Post.lstNew x1 s1 rd p1⟩
    · rw [if_neg c] at p1
      exact p1.elim
def xTup (fa : Env → Mu → R (List Va)) : Env → Mu → R Va := fun et m => (fa et m).bind fun as m => match datas as with
  | some ds => if ds.length ≤ sizeLine then .ok (.d (.tup ds)) m else .stuck
  | none => .stuck
theorem se_tup {k : Nat} (h : SA X W es fa) : SE X W (.Tuple es k pos) (xTup fa) := by
  obtain ⟨t, h, r⟩ := h
  refine ⟨_, pe_tup h, fun Hs H rh sg et m Q s p => ?_⟩
  unfold xTup at p
  refine r Hs H rh sg et m _ s (Post.step p fun as m1 vs Hs1 H1 rh1 x1 s1 r1 p1 => ?_)
  cases q : datas as with
  | none => rw [q] at p1; exact p1.elim
  | some ds =>
    rw [q] at p1
    dsimp only at p1
    have rd := reps_datas r1 q
    by_cases c : ds.length ≤ sizeLine
    · rw [if_pos c] at p1
      exact ⟨by rw [rd.length]; exact c, Post.tupNew s1 rd p1⟩
    · rw [if_neg c] at p1
      exact p1.elim
/-! xs + ys -/
@[simp] def noScr : Va → Bool
  | .d (.scr _) => false
  | _ => true
theorem noScr_ne {x : Va} (h : noScr x = true) : ∀ z, x ≠ .d (.scr z) := fun z e => by rw [e] at h; cases h
def xCat (f g : Env → Mu → R Va) : Env → Mu → R (List D) := fun et m => (f et m).bind fun x m1 => (g et m1).bind fun y m => match asL m x, asL m y with
  | some a, some b => if (noScr x && noScr y && decide (a.length + b.length ≤ sizeLine)) = true then .ok (a ++ b) m else .stuck
  | _, _ => .stuck
theorem sf_cat (ha : SE X W a f) (hb : SE X W b g) : SF X W (.BinOp a .Add b pos) (xCat f g) := by
  obtain ⟨ta, ha, ra⟩ := ha
  obtain ⟨tb, hb, rb⟩ := hb
  refine ⟨_, pe_op op_cat ha hb, fun Hs H rh sg et m Q s p => ?_⟩
  unfold xCat at p
  refine ra Hs H rh sg et m _ s (Post.step p fun x m1 u Hs1 H1 rh1 x1 s1 r1 p1 => ?_)
  refine rb Hs1 H1 rh1 sg et m1 _ s1 (Post.step p1 fun y m2 v Hs2 H2 rh2 x2 s2 r2 p2 => ?_)
  split at p2
  · rename_i ds es e1 e2
    by_cases c : (noScr x && noScr y && decide (ds.length + es.length ≤ sizeLine)) = true
    · rw [if_pos c] at p2
      have c1 := Bool.and_eq_true_iff.mp c
      have c2 := Bool.and_eq_true_iff.mp c1.1
      obtain ⟨a1, us, rfl, q1, h1⟩ := asL_at s2.sc (r1.ext x2) e1 (noScr_ne c2.1)
      obtain ⟨a2, vs, rfl, q2, h2⟩ := asL_at s2.sc r2 e2 (noScr_ne c2.2)
      exact ⟨a1, a2, us, vs, rfl, rfl, q1, q2, by rw [h1.length, h2.length]; exact of_decide_eq_true c1.2, Post.lstNew (x1.trans x2) s2 (h1.append h2) p2⟩
    · rw [if_neg c] at p2
      exact p2.elim
  · exact p2.elim
/-! xs[i], t[i], s[i] -/
@[simp] def asStr : Va → Option Str
  | .d (.str x) => some x
  | _ => none
@[simp] def oIx : Va → Va → Mu → R Va := fun x y m => match y with
  | .d (.int i) => (match asL m x, asT x, asStr x with
    | some ds, _, _ => (match atI ds i with
      | some d => .ok (.d d) m
      | none => .stuck)
    | _, some ds, _ => (match atI ds i with
      | some d => .ok (.d d) m
      | none => .stuck)
    | _, _, some z => if z.length ≤ sizeLine then (match atI z.cps.toList i with
      | some c => .ok (.d (.str ⟨#[c]⟩)) m
      | none => .stuck) else .stuck
    | _, _, _ => .stuck)
  | _ => .stuck
theorem atI_reps {K : PySem.W.Frag} {Hs : Hp} {ds : List D} {vs : List V} {i : Int} {d : D} (r : Reps K Hs ds vs) (e : atI ds i = some d) : ∃ v, atI vs i = some v ∧ Rep K Hs d v := by
  unfold atI at e ⊢
  rw [r.length]
  cases q : ixN ds.length i with
  | none => rw [q] at e; cases e
  | some j =>
    rw [q] at e
    exact r.get e
theorem ix_read {W : WX} {Hs H : Hp} {rh : List Addr} {sg : St2} {et : Env} {m : Mu} {x y : Va} {u v : V} {Q : VK} (s : SR X.K Hs H rh sg et m) (r1 : RepA X.K Hs rh x u) (r2 : RepA X.K Hs rh y v) (p : Post X.K W (RlA X.K) Hs H rh sg et Q (oIx x y m)) : rIxL X.K u v H Q ∨ rIxT X.K u v H Q ∨ rIxS u v H Q := by
  unfold oIx at p
  split at p
  · rename_i i
    split at p
    · rename_i ds e1
      obtain ⟨a, vs, rfl, q1, h1⟩ := asL_rd s.sc r1 e1
      split at p
      · rename_i d e2
        obtain ⟨w, e3, h2⟩ := atI_reps h1 e2
        exact .inl ⟨a, vs, i, w, rfl, va_int r2, q1, e3, p w Hs H rh .refl s h2⟩
      · exact p.elim
    · rename_i ds e1 _
      obtain ⟨a, vs, rfl, q1, h1⟩ := asT_rd s.sc r1 e1
      split at p
      · rename_i d e2
        obtain ⟨w, e3, h2⟩ := atI_reps h1 e2
        exact .inr (.inl ⟨a, vs, i, w, rfl, va_int r2, q1, e3, p w Hs H rh .refl s h2⟩)
      · exact p.elim
    · rename_i z e1 _ _
      have ex : x = .d (.str z) := by
        cases x with
        | l n => cases e1
        | d x =>
          cases x with
          | str z' => cases e1; rfl
          | _ => cases e1
      subst ex
      by_cases c : z.length ≤ sizeLine
      · rw [if_pos c] at p
        split at p
        · rename_i d e2
          exact .inr (.inr ⟨z, i, d, va_str r1, va_int r2, c, e2, Post.ok_ p .refl s mk_str⟩)
        · exact p.elim
      · rw [if_neg c] at p
        exact p.elim
    · exact p.elim
  · exact p.elim
theorem se_ix (ha : SE X W a f) (hb : SE X W b g) (hs : PlainIx b) : SE X W (.Subscript a b pos) (xBin oIx f g) := by
  obtain ⟨ta, ha, ra⟩ := ha
  obtain ⟨tb, hb, rb⟩ := hb
  exact ⟨_, pe_ix ix_seq ha hb hs, fun Hs H rh sg et m Q s p => bin_read (r := rIx X.K) ra rb s (fun W Hs H rh sg et m x y u v Q s r1 r2 p => ix_read s r1 r2 p) p⟩
/-! slices -/
def SO (X : Cx) (W : WX) (e : Option Expr) (f : Env → Mu → R (Option Int)) : Prop := ∃ t, PO X e t ∧ ∀ Hs H rh sg et m (Q : Option Int → Hp → Prop), SR X.K Hs H rh sg et m → Post X.K W (fun _ _ _ a b => a = b) Hs H rh sg et Q (f et m) → t sg H Q
@[simp] def xNoPart : Env → Mu → R (Option Int) := fun _ m => .ok none m
def xPart (f : Env → Mu → R Va) : Env → Mu → R (Option Int) := fun et m => (f et m).bind fun x m => match x with
  | .d (.int i) => .ok (some i) m
  | _ => .stuck
theorem so_none : SO X W none xNoPart := ⟨_, po_none, fun Hs H rh sg et m Q s p => Post.ok_ p .refl s rfl⟩
theorem so_some (h : SE X W e f) : SO X W (some e) (xPart f) := by
  obtain ⟨t, h, r⟩ := h
  refine ⟨_, po_some h, fun Hs H rh sg et m Q s p => r Hs H rh sg et m _ s (Post.step p fun x m1 v Hs1 H1 rh1 x1 s1 r1 p1 => ?_)⟩
  split at p1
  · exact ⟨_, va_int r1, Post.ok_ p1 .refl s1 rfl⟩
  · exact p1.elim
def cutD (xs : List D) (lo hi : Option Int) : List D := (xs.drop (HT.sIx xs.length 0 lo)).take (HT.sIx xs.length xs.length hi - HT.sIx xs.length 0 lo)
theorem reps_cut {K : PySem.W.Frag} {Hs : Hp} {ds : List D} {vs : List V} (r : Reps K Hs ds vs) (lo hi : Option Int) : Reps K Hs (cutD ds lo hi) (cutV vs lo hi) := by
  unfold cutD cutV
  rw [r.length]
  exact (r.drop _).take _
variable {lo hi : Option Expr} {p2 : Pos} {fo fh : Env → Mu → R (Option Int)}
/-- a list's slice -/
def xSlL (f : Env → Mu → R Va) (fo fh : Env → Mu → R (Option Int)) : Env → Mu → R (List D) := fun et m => (f et m).bind fun x m => (fo et m).bind fun l m => (fh et m).bind fun u m => match asL m x with
  | some ds => .ok (cutD ds l u) m
  | none => .stuck
theorem sf_slice (he : SE X W e f) (hl : SO X W lo fo) (hu : SO X W hi fh) : SF X W (.Subscript e (.Slice lo hi none p2) pos) (xSlL f fo fh) := by
  obtain ⟨te, he, re⟩ := he
  obtain ⟨tl, hl, rl⟩ := hl
  obtain ⟨tu, hu, ru⟩ := hu
  refine ⟨_, pe_slice sl_list he hl hu, fun Hs H rh sg et m Q s p => ?_⟩
  unfold xSlL at p
  refine re Hs H rh sg et m _ s (Post.step p fun x m1 u Hs1 H1 rh1 x1 s1 r1 p1 => ?_)
  refine rl Hs1 H1 rh1 sg et m1 _ s1 (Post.step p1 fun l m2 l' Hs2 H2 rh2 x2 s2 r2 p2 => ?_)
  refine ru Hs2 H2 rh2 sg et m2 _ s2 (Post.step p2 fun k m3 k' Hs3 H3 rh3 x3 s3 r3 p3 => ?_)
  have e1 : l = l' := r2
  have e2 : k = k' := r3
  subst e1 e2
  split at p3
  · rename_i ds e1
    obtain ⟨a, vs, rfl, q1, h1⟩ := asL_rd s3.sc (r1.ext (x2.trans x3)) e1
    exact ⟨a, vs, rfl, q1, Post.lstNew (x1.trans (x2.trans x3)) s3 (reps_cut h1 l k) p3⟩
  · exact p3.elim
/-- a tuple's, a text's -/
def xSl (f : Env → Mu → R Va) (fo fh : Env → Mu → R (Option Int)) : Env → Mu → R Va := fun et m => (f et m).bind fun x m => (fo et m).bind fun l m => (fh et m).bind fun u m => match x with
  | .d (.tup ds) => .ok (.d (.tup (cutD ds l u))) m
  | .d (.str z) => if z.length ≤ sizeLine then .ok (.d (.str (cutS z l u))) m else .stuck
  | _ => .stuck
theorem se_slice (he : SE X W e f) (hl : SO X W lo fo) (hu : SO X W hi fh) : SE X W (.Subscript e (.Slice lo hi none p2) pos) (xSl f fo fh) := by
  obtain ⟨te, he, re⟩ := he
  obtain ⟨tl, hl, rl⟩ := hl
  obtain ⟨tu, hu, ru⟩ := hu
  refine ⟨_, pe_slice (sl_tupA.or sl_str) he hl hu, fun Hs H rh sg et m Q s p => ?_⟩
  unfold xSl at p
  refine re Hs H rh sg et m _ s (Post.step p fun x m1 u Hs1 H1 rh1 x1 s1 r1 p1 => ?_)
  refine rl Hs1 H1 rh1 sg et m1 _ s1 (Post.step p1 fun l m2 l' Hs2 H2 rh2 x2 s2 r2 p2 => ?_)
  refine ru Hs2 H2 rh2 sg et m2 _ s2 (Post.step p2 fun k m3 k' Hs3 H3 rh3 x3 s3 r3 p3 => ?_)
  have e1 : l = l' := r2
  have e2 : k = k' := r3
  subst e1 e2
  have r1' := r1.ext (x2.trans x3)
  split at p3
  · rename_i ds
    obtain ⟨a, vs, rfl, q1, h1⟩ := asT_rd s3.sc r1' rfl
    refine .inl ⟨a, vs, rfl, q1, fun w => ?_, fun _ => Post.tupNew s3 (reps_cut h1 l k) p3⟩
    have ec : cutD ds l k = ds := by
      unfold cutD
      rw [← h1.length, w.1, w.2, h1.length]
      simp
    rw [ec] at p3
    exact p3 (.ref a) Hs3 H3 rh3 .refl s3 r1'
  · rename_i z
    by_cases c : z.length ≤ sizeLine
    · rw [if_pos c] at p3
      exact .inr ⟨z, va_str r1', c, Post.ok_ p3 .refl s3 mk_str⟩
    · rw [if_neg c] at p3
      exact p3.elim
  · exact p3.elim
end
end DL
set_option maxHeartbeats 4000000
namespace DL
open PySem PySem.Spec PyProof.Rows L2
/-! ## Built-ins -/
def CalS (X : Cx) (f : Value) (o : List Va → Mu → R Va) : Prop := ∃ r, CallR X f r ∧ ∀ W Hs H rh sg et m as vs Q, SR X.K Hs H rh sg et m → RepAs X.K Hs rh as vs → Post X.K W (RlA X.K) Hs H rh sg et Q (o as m) → r vs H Q
def CalF (X : Cx) (f : Value) (o : List Va → Mu → R (List D)) : Prop := ∃ r, CallR X f r ∧ ∀ W Hs0 H0 rh0 Hs H rh sg et m as vs Q, Ext Hs0 H0 rh0 Hs H rh → SR X.K Hs H rh sg et m → RepAs X.K Hs rh as vs → Post X.K W (RlF X.K H0) Hs H rh sg et Q (o as m) → r vs H Q
@[simp] def xCB (o : List Va → Mu → R Va) (fa : Env → Mu → R (List Va)) : Env → Mu → R Va := fun et m => (fa et m).bind o
@[simp] def xCF (o : List Va → Mu → R (List D)) (fa : Env → Mu → R (List Va)) : Env → Mu → R (List D) := fun et m => (fa et m).bind o
section
variable {X : Cx} {W : WX} {e : Expr} {es : List Expr} {x : Str} {p pos : Pos} {fa : Env → Mu → R (List Va)} {o : List Va → Mu → R Va} {ol : List Va → Mu → R (List D)} {id T : String}
theorem se_cb (hc : CalS X (.builtin id) o) (hg : Gl X x) (hm : X.mg x = none) (hv : bootBuiltins x = some (.builtin id)) (ha : SA X W (e :: es) fa) (hn : x ≠ "__name__" := by decide) (hdb : (x == ("__debug__" : Str)) = false := by decide)
    (he : starEach (e :: es) X.env = (false, eval e X.env) :: starEach es X.env := by rfl) (hpl : (backTo pos (starEach es X.env)).any (·.1) = false := by rfl) : SE X W (.Call (.Name x p) (e :: es) [] pos) (xCB o fa) := by
  obtain ⟨r, h, ro⟩ := hc
  obtain ⟨t, h', ra⟩ := ha
  exact ⟨_, pe_callB h hg hm hv h' hn hdb he hpl, fun Hs H rh sg et m Q s z => ra Hs H rh sg et m _ s (Post.step z fun as m1 vs Hs1 H1 rh1 x1 s1 r1 p1 => ro W Hs1 H1 rh1 sg et m1 as vs Q s1 r1 p1)⟩
theorem se_ct (hc : CalS X (.type T) o) (hg : Gl X x) (hm : X.mg x = none) (hv : bootBuiltins x = some (.type T)) (ha : SA X W (e :: es) fa) (hn : x ≠ "__name__" := by decide) (hdb : (x == ("__debug__" : Str)) = false := by decide)
    (he : starEach (e :: es) X.env = (false, eval e X.env) :: starEach es X.env := by rfl) (hpl : (backTo pos (starEach es X.env)).any (·.1) = false := by rfl) : SE X W (.Call (.Name x p) (e :: es) [] pos) (xCB o fa) := by
  obtain ⟨r, h, ro⟩ := hc
  obtain ⟨t, h', ra⟩ := ha
  exact ⟨_, pe_callTy h hg hm hv h' hn hdb he hpl, fun Hs H rh sg et m Q s z => ra Hs H rh sg et m _ s (Post.step z fun as m1 vs Hs1 H1 rh1 x1 s1 r1 p1 => ro W Hs1 H1 rh1 sg et m1 as vs Q s1 r1 p1)⟩
theorem sf_ct (hc : CalF X (.type T) ol) (hg : Gl X x) (hm : X.mg x = none) (hv : bootBuiltins x = some (.type T)) (ha : SA X W (e :: es) fa) (hn : x ≠ "__name__" := by decide) (hdb : (x == ("__debug__" : Str)) = false := by decide)
    (he : starEach (e :: es) X.env = (false, eval e X.env) :: starEach es X.env := by rfl) (hpl : (backTo pos (starEach es X.env)).any (·.1) = false := by rfl) : SF X W (.Call (.Name x p) (e :: es) [] pos) (xCF ol fa) := by
  obtain ⟨r, h, ro⟩ := hc
  obtain ⟨t, h', ra⟩ := ha
  exact ⟨_, pe_callTy h hg hm hv h' hn hdb he hpl, fun Hs H rh sg et m Q s z => ra Hs H rh sg et m _ s (Post.step z fun as m1 vs Hs1 H1 rh1 x1 s1 r1 p1 => ro W Hs H rh Hs1 H1 rh1 sg et m1 as vs Q x1 s1 r1 p1)⟩
/-- arguments one by one -/
theorem as1 {K : PySem.W.Frag} {Hs : Hp} {rh : List Addr} {a : Va} {vs : List V} (h : RepAs K Hs rh [a] vs) : ∃ v, vs = [v] ∧ RepA K Hs rh a v := by
  obtain ⟨v, r, e, h1, h2⟩ := h
  exact ⟨v, by rw [e, show r = [] from h2], h1⟩
theorem as2 {K : PySem.W.Frag} {Hs : Hp} {rh : List Addr} {a b : Va} {vs : List V} (h : RepAs K Hs rh [a, b] vs) : ∃ v u, vs = [v, u] ∧ RepA K Hs rh a v ∧ RepA K Hs rh b u := by
  obtain ⟨v, r, e, h1, h2⟩ := h
  obtain ⟨u, e2, h3⟩ := as1 h2
  exact ⟨v, u, by rw [e, e2], h1, h3⟩
theorem CallR.or {f : Value} {r r' : List V → Hp → VK → Prop} (h : CallR X f r) (h' : CallR X f r') : CallR X f (fun x H Q => r x H Q ∨ r' x H Q) := by
  intro pins s σ H xs us Q I rx q
  rcases q with q | q
  · exact h pins s σ H xs us Q I rx q
  · exact h' pins s σ H xs us Q I rx q
/-- len -/
@[simp] def lenA (m : Mu) (x : Va) : Option Nat := match asL m x, asT x, asStr x with
  | some ds, _, _ => some ds.length
  | _, some ds, _ => some ds.length
  | _, _, some z => if z.length ≤ sizeLine then some z.length else none
  | _, _, _ => none
@[simp] def oLen : List Va → Mu → R Va := fun as m => match as with
  | [x] => (match lenA m x with
    | some n => .ok (.d (.int n)) m
    | none => .stuck)
  | _ => .stuck
theorem lenA_rd {K : PySem.W.Frag} {Hs H : Hp} {rh : List Addr} {m : Mu} {x : Va} {v : V} {n : Nat} (s : SC K Hs H rh m) (r : RepA K Hs rh x v) (e : lenA m x = some n) : LenV K v H n := by
  unfold lenA at e
  split at e
  · rename_i ds e1
    cases e
    obtain ⟨a, vs, rfl, q, h⟩ := asL_rd s r e1
    exact .inl ⟨vs, q, h.length.symm⟩
  · rename_i ds e1 _
    cases e
    obtain ⟨a, vs, rfl, q, h⟩ := asT_rd s r e1
    exact .inr ⟨vs, q, h.length.symm⟩
  · rename_i z e1 _ _
    have ex : x = .d (.str z) := by
      cases x with
      | l n => cases e1
      | d x =>
        cases x with
        | str z' => cases e1; rfl
        | _ => cases e1
    subst ex
    rw [va_str r]
    by_cases c : z.length ≤ sizeLine
    · rw [if_pos c] at e
      cases e
      exact ⟨c, rfl⟩
    · rw [if_neg c] at e
      cases e
  · cases e
theorem cs_len : CalS X (.builtin "len") oLen := by
  refine ⟨_, call_len, fun W Hs H rh sg et m as vs Q s r p => ?_⟩
  unfold oLen at p
  split at p
  · rename_i x
    obtain ⟨v, rfl, r1⟩ := as1 r
    cases q : lenA m x with
    | none => rw [q] at p; exact p.elim
    | some n =>
      rw [q] at p
      exact ⟨v, n, rfl, lenA_rd s.sc r1 q, Post.ok_ p .refl s mk_int⟩
  · exact p.elim
/-- int(n), int(flag) -/
@[simp] def oInt : List Va → Mu → R Va := fun as m => match as with
  | [.d (.int i)] => .ok (.d (.int i)) m
  | [.d (.bl k)] => .ok (.d (.int (if k then 1 else 0))) m
  | _ => .stuck
theorem cs_int : CalS X (.type "int") oInt := by
  refine ⟨_, call_int1, fun W Hs H rh sg et m as vs Q s r p => ?_⟩
  unfold oInt at p
  split at p
  · obtain ⟨v, rfl, r1⟩ := as1 r
    exact .inl ⟨_, by rw [va_int r1], Post.ok_ p .refl s mk_int⟩
  · obtain ⟨v, rfl, r1⟩ := as1 r
    exact .inr ⟨_, by rw [va_bl r1], Post.ok_ p .refl s mk_int⟩
  · exact p.elim
@[simp] def oAbs : List Va → Mu → R Va := fun as m => match as with
  | [.d (.int i)] => .ok (.d (.int (if i < 0 then -i else i))) m
  | _ => .stuck
theorem cs_abs : CalS X (.builtin "abs") oAbs := by
  refine ⟨_, call_abs, fun W Hs H rh sg et m as vs Q s r p => ?_⟩
  unfold oAbs at p
  split at p
  · obtain ⟨v, rfl, r1⟩ := as1 r
    exact ⟨_, by rw [va_int r1], Post.ok_ p .refl s mk_int⟩
  · exact p.elim
@[simp] def oMax : List Va → Mu → R Va := fun as m => match as with
  | [.d (.int i), .d (.int j)] => .ok (.d (.int (if j > i then j else i))) m
  | _ => .stuck
@[simp] def oMin : List Va → Mu → R Va := fun as m => match as with
  | [.d (.int i), .d (.int j)] => .ok (.d (.int (if j < i then j else i))) m
  | _ => .stuck
theorem cs_max (hc : X.calm = true) : CalS X (.builtin "max") oMax := by
  refine ⟨_, call_max2 hc, fun W Hs H rh sg et m as vs Q s r p => ?_⟩
  unfold oMax at p
  split at p
  · obtain ⟨v, u, rfl, r1, r2⟩ := as2 r
    exact ⟨_, _, by rw [va_int r1, va_int r2], Post.ok_ p .refl s mk_int⟩
  · exact p.elim
theorem cs_min (hc : X.calm = true) : CalS X (.builtin "min") oMin := by
  refine ⟨_, call_min2 hc, fun W Hs H rh sg et m as vs Q s r p => ?_⟩
  unfold oMin at p
  split at p
  · obtain ⟨v, u, rfl, r1, r2⟩ := as2 r
    exact ⟨_, _, by rw [va_int r1, va_int r2], Post.ok_ p .refl s mk_int⟩
  · exact p.elim
/-- any, all: a list of truth values -/
@[simp] def blsOf : List D → Option (List Bool)
  | [] => some []
  | .bl b :: r => (blsOf r).map (b :: ·)
  | _ :: _ => none
theorem bls_rd {K : PySem.W.Frag} {Hs : Hp} : ∀ {ds : List D} {vs : List V} {bs : List Bool}, Reps K Hs ds vs → blsOf ds = some bs → vs = bs.map V.bl
  | [], vs, bs, h, e => by
    cases e
    exact reps_nil.mp h
  | d :: r, vs, bs, h, e => by
    simp only [Reps] at h
    obtain ⟨v, r', rfl, h1, h2⟩ := h
    cases d with
    | bl b =>
      have e' : (blsOf r).map (b :: ·) = some bs := e
      cases q : blsOf r with
      | none => rw [q] at e'; cases e'
      | some bs' =>
        rw [q] at e'
        cases e'
        rw [rep_bl h1, bls_rd h2 q]
        rfl
    | _ => cases e
@[simp] def oAny : List Va → Mu → R Va := fun as m => match as with
  | [x] => (match (asL m x).bind blsOf with
    | some bs => .ok (.d (.bl (bs.any fun b => b))) m
    | none => .stuck)
  | _ => .stuck
@[simp] def oAll : List Va → Mu → R Va := fun as m => match as with
  | [x] => (match (asL m x).bind blsOf with
    | some bs => .ok (.d (.bl (bs.all fun b => b))) m
    | none => .stuck)
  | _ => .stuck
theorem bls_at {K : PySem.W.Frag} {Hs H : Hp} {rh : List Addr} {m : Mu} {x : Va} {v : V} {bs : List Bool} (s : SC K Hs H rh m) (r : RepA K Hs rh x v) (e : (asL m x).bind blsOf = some bs) : ∃ a, v = .ref a ∧ SqL K H a (bs.map V.bl) := by
  cases q : asL m x with
  | none => rw [q] at e; cases e
  | some ds =>
    rw [q] at e
    obtain ⟨a, vs, rfl, q1, h⟩ := asL_rd s r q
    rw [bls_rd h e] at q1
    exact ⟨a, rfl, q1⟩
theorem cs_any (hc : X.calm = true) : CalS X (.builtin "any") oAny := by
  refine ⟨_, cr_any hc, fun W Hs H rh sg et m as vs Q s r p => ?_⟩
  unfold oAny at p
  split at p
  · obtain ⟨v, rfl, r1⟩ := as1 r
    split at p
    · rename_i bs e
      obtain ⟨a, rfl, q1⟩ := bls_at s.sc r1 e
      exact ⟨a, bs, rfl, q1, Post.ok_ p .refl s mk_bl⟩
    · exact p.elim
  · exact p.elim
theorem cs_all (hc : X.calm = true) : CalS X (.builtin "all") oAll := by
  refine ⟨_, cr_all hc, fun W Hs H rh sg et m as vs Q s r p => ?_⟩
  unfold oAll at p
  split at p
  · obtain ⟨v, rfl, r1⟩ := as1 r
    split at p
    · rename_i bs e
      obtain ⟨a, rfl, q1⟩ := bls_at s.sc r1 e
      exact ⟨a, bs, rfl, q1, Post.ok_ p .refl s mk_bl⟩
    · exact p.elim
  · exact p.elim
/-- tuple(xs), tuple(t) -/
@[simp] def oTuple : List Va → Mu → R Va := fun as m => match as with
  | [x] => (match asL m x, asT x with
    | some ds, _ => .ok (.d (.tup ds)) m
    | _, some ds => .ok x m
    | _, _ => .stuck)
  | _ => .stuck
theorem cs_tuple : CalS X (.type "tuple") oTuple := by
  refine ⟨_, call_tuple_of, fun W Hs H rh sg et m as vs Q s r p => ?_⟩
  unfold oTuple at p
  split at p
  · obtain ⟨v, rfl, r1⟩ := as1 r
    split at p
    · rename_i ds e
      obtain ⟨a, us, rfl, q1, h⟩ := asL_rd s.sc r1 e
      exact ⟨a, us, rfl, .inl ⟨q1, Post.tupNew s h p⟩⟩
    · rename_i ds e _
      obtain ⟨a, us, rfl, q1, h⟩ := asT_rd s.sc r1 e
      exact ⟨a, us, rfl, .inr ⟨q1, Post.ok_ p .refl s r1⟩⟩
    · exact p.elim
  · exact p.elim
/-- list(xs), list(t) -/
@[simp] def oList : List Va → Mu → R (List D) := fun as m => match as with
  | [x] => (match asL m x, asT x with
    | some ds, _ => .ok ds m
    | _, some ds => .ok ds m
    | _, _ => .stuck)
  | _ => .stuck
theorem cf_list : CalF X (.type "list") oList := by
  refine ⟨_, call_list_of, fun W Hs0 H0 rh0 Hs H rh sg et m as vs Q x0 s r p => ?_⟩
  unfold oList at p
  split at p
  · obtain ⟨v, rfl, r1⟩ := as1 r
    split at p
    · rename_i ds e
      obtain ⟨a, us, rfl, q1, h⟩ := asL_rd s.sc r1 e
      exact ⟨a, us, rfl, .inl q1, Post.lstNew x0 s h p⟩
    · rename_i ds e _
      obtain ⟨a, us, rfl, q1, h⟩ := asT_rd s.sc r1 e
      exact ⟨a, us, rfl, .inr q1, Post.lstNew x0 s h p⟩
    · exact p.elim
  · exact p.elim
end
/-! ## Methods of lists, stores -/
section
variable {X : Cx} {W : WX} {a b e o : Expr} {pos cpos apos tpos : Pos} {f g h : Env → Mu → R Va}
/-- a local list's cell -/
theorem cell_rd {K : PySem.W.Frag} {Hs H : Hp} {rh : List Addr} {m : Mu} {n : Nat} {v : V} {ds : List D} (s : SC K Hs H rh m) (r : RepA K Hs rh (.l n) v) (e : m[n]? = some (some (.lst ds))) : ∃ a vs, v = .ref a ∧ rh[n]? = some a ∧ H a = some (.lst vs) ∧ Reps K Hs ds vs := by
  obtain ⟨a, e1, rfl⟩ := r
  obtain ⟨a', o, q1, q2, q3, q4⟩ := s.cell n _ e
  rw [e1] at q1
  cases q1
  obtain ⟨vs, rfl, h⟩ := q4
  exact ⟨a, vs, rfl, e1, q3, h⟩
/-- a built-in type's method, by values -/
def MtS (X : Cx) (T id : String) (chk : Va → Mu → Bool) (o : Va → List Va → Mu → R Va) : Prop := ∃ r, MtR X id r ∧ (∀ Hs H rh m x v, SC X.K Hs H rh m → RepA X.K Hs rh x v → chk x m = true → tyV X.K T v H) ∧ ∀ W Hs H rh sg et m x v as vs Q, SR X.K Hs H rh sg et m → RepA X.K Hs rh x v → RepAs X.K Hs rh as vs → Post X.K W (RlA X.K) Hs H rh sg et Q (o x as m) → r v vs H Q
def MtF (X : Cx) (T id : String) (chk : Va → Mu → Bool) (o : Va → List Va → Mu → R (List D)) : Prop := ∃ r, MtR X id r ∧ (∀ Hs H rh m x v, SC X.K Hs H rh m → RepA X.K Hs rh x v → chk x m = true → tyV X.K T v H) ∧ ∀ W Hs0 H0 rh0 Hs H rh sg et m x v as vs Q, Ext Hs0 H0 rh0 Hs H rh → SR X.K Hs H rh sg et m → RepA X.K Hs rh x v → RepAs X.K Hs rh as vs → Post X.K W (RlF X.K H0) Hs H rh sg et Q (o x as m) → r v vs H Q
def xBM {α : Type} (chk : Va → Mu → Bool) (o : Va → List Va → Mu → R α) (f : Env → Mu → R Va) (fa : Env → Mu → R (List Va)) : Env → Mu → R α := fun et m => (f et m).bind fun x m => if chk x m = true then (fa et m).bind fun as m => o x as m else .stuck
variable {T id : String} {name : Str} {es : List Expr} {chk : Va → Mu → Bool} {op : Va → List Va → Mu → R Va} {opl : Va → List Va → Mu → R (List D)} {fa : Env → Mu → R (List Va)}
theorem se_bm (pa : PlainAttrs T) (slot : Slot T name id) (hty : typeOf (.builtin id) = pure (.type "method_descriptor")) (hm : MtS X T id chk op) (ho : SE X W o f) (ha : SA X W (e :: es) fa) (hbase : attributeBase o name X.env (eval o X.env) = eval o X.env := by rfl)
    (hfew : ((backTo cpos (starEach (e :: es) X.env)).all (fun x => !x.1) && (backToKw cpos (keywordEach [] X.env)).all (fun x => x.1.isSome)
      && decide ((e :: es).length + ([] : List Keyword).length + (if ([] : List Keyword).isEmpty then 0 else 1) < 30)) = true := by rfl)
    (hline : (apos.endLine == cpos.line) = true := by rfl) (hs : starEach (e :: es) X.env = (false, eval e X.env) :: starEach es X.env := by rfl) (hplain : (backTo cpos (starEach es X.env)).any (·.1) = false := by rfl) :
    SE X W (.Call (.Attribute o name apos) (e :: es) [] cpos) (xBM chk op f fa) := by
  obtain ⟨r, hr, hc, rr⟩ := hm
  obtain ⟨to, ho, ro⟩ := ho
  obtain ⟨ta, ha, ra⟩ := ha
  refine ⟨_, pe_bm pa slot hty hr ho ha hbase hfew hline hs hplain, fun Hs H rh sg et m Q s p => ?_⟩
  unfold xBM at p
  refine ro Hs H rh sg et m _ s (Post.step p fun x m1 u Hs1 H1 rh1 x1 s1 r1 p1 => ?_)
  by_cases c : chk x m1 = true
  · rw [if_pos c] at p1
    refine ⟨hc Hs1 H1 rh1 m1 x u s1.sc r1 c, ra Hs1 H1 rh1 sg et m1 _ s1 (Post.step p1 fun as m2 vs Hs2 H2 rh2 x2 s2 r2 p2 => ?_)⟩
    exact rr W Hs2 H2 rh2 sg et m2 x u as vs Q s2 (r1.ext x2) r2 p2
  · rw [if_neg c] at p1
    exact p1.elim
theorem sf_bm (pa : PlainAttrs T) (slot : Slot T name id) (hty : typeOf (.builtin id) = pure (.type "method_descriptor")) (hm : MtF X T id chk opl) (ho : SE X W o f) (ha : SA X W (e :: es) fa) (hbase : attributeBase o name X.env (eval o X.env) = eval o X.env := by rfl)
    (hfew : ((backTo cpos (starEach (e :: es) X.env)).all (fun x => !x.1) && (backToKw cpos (keywordEach [] X.env)).all (fun x => x.1.isSome)
      && decide ((e :: es).length + ([] : List Keyword).length + (if ([] : List Keyword).isEmpty then 0 else 1) < 30)) = true := by rfl)
    (hline : (apos.endLine == cpos.line) = true := by rfl) (hs : starEach (e :: es) X.env = (false, eval e X.env) :: starEach es X.env := by rfl) (hplain : (backTo cpos (starEach es X.env)).any (·.1) = false := by rfl) :
    SF X W (.Call (.Attribute o name apos) (e :: es) [] cpos) (xBM chk opl f fa) := by
  obtain ⟨r, hr, hc, rr⟩ := hm
  obtain ⟨to, ho, ro⟩ := ho
  obtain ⟨ta, ha, ra⟩ := ha
  refine ⟨_, pe_bm pa slot hty hr ho ha hbase hfew hline hs hplain, fun Hs H rh sg et m Q s p => ?_⟩
  unfold xBM at p
  refine ro Hs H rh sg et m _ s (Post.step p fun x m1 u Hs1 H1 rh1 x1 s1 r1 p1 => ?_)
  by_cases c : chk x m1 = true
  · rw [if_pos c] at p1
    refine ⟨hc Hs1 H1 rh1 m1 x u s1.sc r1 c, ra Hs1 H1 rh1 sg et m1 _ s1 (Post.step p1 fun as m2 vs Hs2 H2 rh2 x2 s2 r2 p2 => ?_)⟩
    exact rr W Hs H rh Hs2 H2 rh2 sg et m2 x u as vs Q (x1.trans x2) s2 (r1.ext x2) r2 p2
  · rw [if_neg c] at p1
    exact p1.elim
@[simp] def isL (x : Va) (m : Mu) : Bool := (asL m x).isSome
theorem isL_ty {K : PySem.W.Frag} {Hs H : Hp} {rh : List Addr} {m : Mu} {x : Va} {v : V} (s : SC K Hs H rh m) (r : RepA K Hs rh x v) (c : isL x m = true) : tyV K "list" v H := by
  unfold isL at c
  cases q : asL m x with
  | none => rw [q] at c; cases c
  | some ds =>
    obtain ⟨a, vs, rfl, q1, _⟩ := asL_rd s r q
    exact .inl ⟨rfl, vs, q1⟩
/-- xs.append(v) -/
@[simp] def oAppend : Va → List Va → Mu → R Va := fun x as m => match x, as with
  | .l n, [.d d] => (match m[n]? with
    | some (some (.lst ds)) => if ds.length < sizeLine then .ok (.d .non) (m.set n (some (.lst (ds ++ [d])))) else .stuck
    | _ => .stuck)
  | _, _ => .stuck
theorem ms_append : MtS X "list" "list.append" isL oAppend := by
  refine ⟨_, mt_append, fun Hs H rh m x v s r c => isL_ty s r c, fun W Hs H rh sg et m x v as vs Q s r1 r2 p => ?_⟩
  unfold oAppend at p
  split at p
  · rename_i n d
    obtain ⟨u, rfl, r3⟩ := as1 r2
    split at p
    · rename_i ds e
      by_cases c : ds.length < sizeLine
      · rw [if_pos c] at p
        obtain ⟨a, us, rfl, q1, q2, h⟩ := cell_rd s.sc r1 e
        obtain ⟨w1, w2⟩ := s.sc.write (c := .lst (ds ++ [d])) (o := .lst (us ++ [u])) e q1 ⟨_, rfl, h.append (Reps.one r3)⟩
        exact ⟨a, us, u, rfl, rfl, q2, by rw [h.length]; exact c, Post.ok_ p w2 (s.ext w2 w1) mk_non⟩
      · rw [if_neg c] at p
        exact p.elim
    · exact p.elim
  · exact p.elim
theorem se_append (ho : SE X W o f) (ha : SA X W [e] fa) (hbase : attributeBase o "append" X.env (eval o X.env) = eval o X.env := by rfl)
    (hfew : ((backTo cpos (starEach [e] X.env)).all (fun x => !x.1) && (backToKw cpos (keywordEach [] X.env)).all (fun x => x.1.isSome)
      && decide (([e] : List Expr).length + ([] : List Keyword).length + (if ([] : List Keyword).isEmpty then 0 else 1) < 30)) = true := by rfl)
    (hline : (apos.endLine == cpos.line) = true := by rfl) (hs : starEach [e] X.env = (false, eval e X.env) :: starEach [] X.env := by rfl) (hplain : (backTo cpos (starEach [] X.env)).any (·.1) = false := by rfl) :
    SE X W (.Call (.Attribute o "append" apos) [e] [] cpos) (xBM isL oAppend f fa) := se_bm PySem.F.plainAttrs_list PySem.F.slot_list_append PySem.F.type_list_append ms_append ho ha hbase hfew hline hs hplain
/-- xs[i] = v, of a local list -/
@[simp] def gSubL (fo fi : Env → Mu → R Va) : Va → Env → Mu → RS := fun v e m => match fo e m with
  | .ok x m => (match fi e m with
    | .ok y m => (match x, y, v with
      | .l n, .d (.int i), .d d => (match m[n]? with
        | some (some (.lst ds)) => (match ixN ds.length i with
          | some j => .nx e (m.set n (some (.lst (ds.set j d))))
          | none => .stuck)
        | _ => .stuck)
      | _, _, _ => .stuck)
    | _ => .stuck)
  | _ => .stuck
theorem sg_subL {i : Expr} {fo fi : Env → Mu → R Va} (ho : SE X (fun _ _ _ _ => False) o fo) (hi : SE X (fun _ _ _ _ => False) i fi)
    (pg : ∀ v, assign (.Subscript o i tpos) X.env v = (do let ov ← holding [v] (eval o X.env); let iv ← holding [v, ov] (eval i X.env); standAt tpos; holding [v, ov, iv] (setItem ov iv v); release [v, ov, iv] []) := by intro _; rfl) : SG X (.Subscript o i tpos) (gSubL fo fi) := by
  obtain ⟨to, ho, ro⟩ := ho
  obtain ⟨ti, hi, ri⟩ := hi
  refine ⟨_, pg_sub ho hi set_list pg, fun Hs H rh sg et m x v Q s r z => ?_⟩
  unfold gSubL at z
  refine ro Hs H rh sg et m _ s ?_
  cases q1 : fo et m with
  | ok o1 m1 =>
    rw [q1] at z
    intro u Hs1 H1 rh1 x1 s1 r1
    refine ri Hs1 H1 rh1 sg et m1 _ s1 ?_
    dsimp only at z
    cases q2 : fi et m1 with
    | ok i2 m2 =>
      rw [q2] at z
      intro w Hs2 H2 rh2 x2 s2 r2
      dsimp only at z
      split at z
      · rename_i n k d
        split at z
        · rename_i ds e
          split at z
          · rename_i j ej
            obtain ⟨a, us, rfl, e1, e2, h⟩ := cell_rd s2.sc (r1.ext x2) e
            have rd : RepA X.K Hs2 rh2 (.d d) v := (r.ext x1).ext x2
            obtain ⟨w1, w2⟩ := s2.sc.write (c := .lst (ds.set j d)) (o := .lst (us.set j v)) e e1 ⟨_, rfl, h.set j rd⟩
            exact ⟨a, us, k, j, rfl, va_int r2, e2, by rw [h.length]; exact ej, z sg _ _ _ ((x1.trans x2).trans w2) (s2.ext w2 w1)⟩
          · exact z.elim
        · exact z.elim
      · exact z.elim
    | exc c d m2 => rw [q2] at z; exact z.elim
    | stuck => rw [q2] at z; exact z.elim
  | exc c d m1 => rw [q1] at z; exact z.elim
  | stuck => rw [q1] at z; exact z.elim
/-! x += e -/
def zAug (i : Nat) (f : Env → Mu → R Va) : Env → Mu → RS := fun e m => match e[i]? with
  | some (some (.d (.int a))) => (f e m).toS e fun y m => match y with
    | .d (.int b) => .nx (e.set i (some (.d (.int (a + b))))) m
    | _ => .stuck
  | _ => .stuck
theorem ss_aug {i : Nat} {x : Str} {pos' : Pos} (hN : X.N.Nodup) (hi : X.N[i]? = some x) (hx : Loc X.env.scope x) (he : SE X W e f) (hf : X.fn x = true ∨ X.env.scope.names.lookup x = some .local := by first | exact .inl rfl | exact .inr rfl | assumption) : SS X W (.AugAssign (.Name x pos') .Add e pos) (zAug i f) := by
  obtain ⟨te, h, r⟩ := he
  refine ⟨_, ps_aug hN hi hx h ip_add hf, fun Hs H rh sg et m Dn s z => ?_⟩
  unfold zAug at z
  split at z
  · rename_i a ea
    obtain ⟨v, e1, e2⟩ := s.val i _ ea
    refine ⟨v, e1, r Hs H rh sg et m _ s (Post.toS s z fun d m1 u Hs1 H1 rh1 x1 s1 r1 p1 => ?_)⟩
    split at p1
    · rename_i b
      exact ⟨a, b, va_int e2, va_int r1, p1 _ Hs1 H1 rh1 .refl (s1.set mk_int)⟩
    · exact p1.elim
  · exact z.elim
end
/-! ## What is walked -/
section
variable {X : Cx} {W : WX} {tg e e2 : Expr} {p pos : Pos} {f g : Env → Mu → R Va} {fa : Env → Mu → R (List Va)}
/-- a frozen list, the script, a tuple -/
def iSeq (f : Env → Mu → R Va) : Env → Mu → R (List Va) := fun et m => (f et m).bind fun x m => match x with
  | .d (.lst ds) => .ok (ds.map .d) m
  | .d (.scr ns) => .ok (ns.map fun n => .d (.int n)) m
  | .d (.tup ds) => .ok (ds.map .d) m
  | _ => .stuck
theorem pi_seq {tl : TE} (hl : PE X e tl) : PI X tg e (fun σ H R => tl σ H fun x H1 => ∃ a, x = .ref a ∧ (((∃ xs, SqL X.K H1 a xs) ∧ R (Itl X.K a) H1) ∨ ((∃ xs, SqT X.K H1 a xs) ∧ R (Itt X.K a) H1))) := by
  refine ⟨fun pins s σ H R I h => ?_⟩
  refine thn (hl.run pins s σ H _ I h) fun v s1 ⟨x, H1, I1, r1, q1⟩ => ?_
  obtain ⟨a, e, q1⟩ := q1
  subst e
  cases r1
  have fp : ∀ b ∈ [s1.heap.objs.size], FpOk X pins H1 b := fun b hb => by
    have e : b = s1.heap.objs.size := by simpa using hb
    subst e
    exact I1.fpOk (Nat.le_refl _) (I1.hok.fresh (Nat.le_refl _))
  rcases q1 with ⟨⟨xs, hq⟩, q⟩ | ⟨⟨xs, hq⟩, q⟩
  · obtain ⟨its, rv, p, hz⟩ := I1.list hq
    refine wpAny_pyIter_list p.isList ?_
    exact ⟨s1.heap.objs.size, [s1.heap.objs.size], _, _, H1, rfl, I1.kept (t' := s1.toks) fun b o e => Heap.get?_push_of_some _ e, turn_list a _, ⟨_, Heap.get?_push_size _ rfl, rfl, rfl⟩, fp, q⟩
  · obtain ⟨its, rv, p, hz⟩ := I1.tuple hq
    refine wpAny_pyIter_tuple (show s1.heap.IsTuple a its.toArray from p) ?_
    exact ⟨s1.heap.objs.size, [s1.heap.objs.size], _, _, H1, rfl, I1.kept (t' := s1.toks) fun b o e => Heap.get?_push_of_some _ e, turn_tuple a _, ⟨_, Heap.get?_push_size _ rfl, rfl, rfl⟩, fp, q⟩
theorem gv_list {K : PySem.W.Frag} {a : Addr} {vs : List V} {ds : List D} {Hs0 : Hp} {rh0 : List Addr} (q : SqL K Hs0 a vs) (h : Reps K Hs0 ds vs) : Gv K (Itl K a) (ds.map .d) Hs0 rh0 := fun Hs H rh m sc sm pf i => by
  have q1 : SqL K H a vs := Same.seq sc.same (Same.seq sm q)
  have hl := h.length
  refine ⟨fun hi => ?_, fun hi => ⟨vs, q1, by rw [hi, List.length_map, hl]; exact Nat.le_refl _⟩⟩
  rw [List.length_map] at hi
  have hv : i < vs.length := by rw [hl]; exact hi
  refine ⟨⟨vs, vs[i], q1, List.getElem?_eq_getElem hv⟩, fun x H' ⟨e, y⟩ => ?_⟩
  subst e
  refine ⟨Hs, sc, .refl, fun d hd => ?_⟩
  obtain ⟨d', e1, e2⟩ := h.get' (y vs q1)
  rw [List.getElem?_map, e1] at hd
  cases hd
  exact Rep.mono sm e2
theorem gv_tup {K : PySem.W.Frag} {a : Addr} {vs : List V} {ds : List D} {Hs0 : Hp} {rh0 : List Addr} (q : SqT K Hs0 a vs) (h : Reps K Hs0 ds vs) : Gv K (Itt K a) (ds.map .d) Hs0 rh0 := fun Hs H rh m sc sm pf i => by
  have q1 : SqT K H a vs := Same.seqT sc.same (Same.seqT sm q)
  have hl := h.length
  refine ⟨fun hi => ?_, fun hi => ⟨vs, q1, by rw [hi, List.length_map, hl]; exact Nat.le_refl _⟩⟩
  rw [List.length_map] at hi
  have hv : i < vs.length := by rw [hl]; exact hi
  refine ⟨⟨vs, vs[i], q1, List.getElem?_eq_getElem hv⟩, fun x H' ⟨e, y⟩ => ?_⟩
  subst e
  refine ⟨Hs, sc, .refl, fun d hd => ?_⟩
  obtain ⟨d', e1, e2⟩ := h.get' (y vs q1)
  rw [List.getElem?_map, e1] at hd
  cases hd
  exact Rep.mono sm e2
theorem PostI.step {K : PySem.W.Frag} {Hs H : Hp} {rh : List Addr} {sg : St2} {et : Env} {a b : Type} {Rel : Hp → Hp → List Addr → a → b → Prop} {Q : b → Hp → Prop} {Q2 : It → Hp → Prop} {f : R a} {g : a → Mu → R (List Va)} (h : PostI K W Hs H rh sg et Q2 (f.bind g))
    (k : ∀ d m v Hs1 H1 rh1, Ext Hs H rh Hs1 H1 rh1 → SR K Hs1 H1 rh1 sg et m → Rel Hs1 H1 rh1 d v → PostI K W Hs1 H1 rh1 sg et Q2 (g d m) → Q v H1) : Post K W Rel Hs H rh sg et Q f := by
  cases f with
  | ok d m =>
    intro v Hs' H' rh' y s r
    refine k d m v Hs' H' rh' y s r ?_
    have h' : PostI K W Hs H rh sg et Q2 (g d m) := h
    cases q : g d m with
    | ok xs m2 => rw [q] at h'; exact fun J Hs2 H2 rh2 x2 s2 gv => h' J Hs2 H2 rh2 (y.trans x2) s2 gv
    | exc c d m2 => rw [q] at h'; exact fun dx v Hs2 H2 rh2 x2 s2 q r => h' dx v Hs2 H2 rh2 (y.trans x2) s2 (q.base y) r
    | stuck => rw [q] at h'; exact h'
  | exc c d m => exact h
  | stuck => exact h
theorem si_seq (he : SE X W e f) : SI X W tg e (iSeq f) := by
  obtain ⟨t, h, r⟩ := he
  refine ⟨_, pi_seq h, fun Hs H rh sg et m Q s p => ?_⟩
  unfold iSeq at p
  refine r Hs H rh sg et m _ s (PostI.step p fun x m1 v Hs1 H1 rh1 x1 s1 r1 p1 => ?_)
  split at p1
  · rename_i ds
    have r' : Rep X.K Hs1 (.lst ds) v := r1
    simp only [Rep] at r'
    obtain ⟨a, vs, rfl, e2, e3⟩ := r'
    exact ⟨a, rfl, .inl ⟨⟨vs, SqL.of (s1.sc.same _ _ e2)⟩, p1 _ Hs1 H1 rh1 .refl s1 (gv_list (SqL.of e2) e3)⟩⟩
  · rename_i ns
    have r' : Rep X.K Hs1 (.scr ns) v := r1
    simp only [Rep] at r'
    obtain ⟨a, rfl, e2⟩ := r'
    have gv : Gv X.K (Itl X.K a) ((ns.map D.int).map .d) Hs1 rh1 := gv_list e2 reps_ints
    rw [List.map_map] at gv
    exact ⟨a, rfl, .inl ⟨⟨_, Same.seq s1.sc.same e2⟩, p1 _ Hs1 H1 rh1 .refl s1 gv⟩⟩
  · rename_i ds
    have r' : Rep X.K Hs1 (.tup ds) v := r1
    simp only [Rep] at r'
    obtain ⟨a, vs, rfl, e2, e3⟩ := r'
    exact ⟨a, rfl, .inr ⟨⟨vs, Same.seqT s1.sc.same e2⟩, p1 _ Hs1 H1 rh1 .refl s1 (gv_tup e2 e3)⟩⟩
  · exact p1.elim
/-- range(n), range(a, b) -/
def rngD (lo : Int) (n : Nat) : List Va := (List.range n).map fun i => .d (.int (lo + (i : Nat)))
theorem gv_rng {K : PySem.W.Frag} {lo : Int} {n : Nat} {Hs0 : Hp} {rh0 : List Addr} : Gv K (Itr lo n) (rngD lo n) Hs0 rh0 := fun Hs H rh m sc sm pf i => by
  have hl : (rngD lo n).length = n := by unfold rngD; rw [List.length_map, List.length_range]
  refine ⟨fun hi => ?_, fun hi => by rw [hi, hl]; exact Nat.le_refl _⟩
  rw [hl] at hi
  refine ⟨hi, fun x H' ⟨e, y⟩ => ?_⟩
  subst e
  refine ⟨Hs, sc, .refl, fun d hd => ?_⟩
  unfold rngD at hd
  rw [List.getElem?_map, List.getElem?_range hi] at hd
  cases hd
  rw [y]
  exact mk_int
@[simp] def iRg1 : List Va → Mu → R (List Va) := fun as m => match as with
  | [.d (.int j)] => if -(2 ^ 62) ≤ j ∧ j < 2 ^ 62 then .ok (rngD 0 j.toNat) m else .stuck
  | _ => .stuck
@[simp] def iRg2 : List Va → Mu → R (List Va) := fun as m => match as with
  | [.d (.int i), .d (.int j)] => if -(2 ^ 62) ≤ i ∧ i < 2 ^ 62 ∧ -(2 ^ 62) ≤ j ∧ j < 2 ^ 62 then .ok (rngD i (j - i).toNat) m else .stuck
  | _ => .stuck
@[simp] def iRng (o : List Va → Mu → R (List Va)) (fa : Env → Mu → R (List Va)) : Env → Mu → R (List Va) := fun et m => (fa et m).bind o
theorem si_range1 (hg : Gl X "range") (hm : X.mg "range" = none) (ha : SA X W [e] fa) (hs : starEach [e] X.env = [(false, eval e X.env)] := by rfl) : SI X W tg (.Call (.Name "range" p) [e] [] pos) (iRng iRg1 fa) := by
  obtain ⟨t, h, r⟩ := ha
  refine ⟨_, pi_range1 hg hm h hs, fun Hs H rh sg et m Q s p => ?_⟩
  unfold iRng at p
  refine r Hs H rh sg et m _ s (PostI.step p fun as m1 vs Hs1 H1 rh1 x1 s1 r1 p1 => ?_)
  unfold iRg1 at p1
  split at p1
  · rename_i j
    obtain ⟨v, rfl, r2⟩ := as1 r1
    by_cases c : -(2 ^ 62) ≤ j ∧ j < 2 ^ 62
    · rw [if_pos c] at p1
      exact ⟨j, by rw [va_int r2], c.1, c.2, p1 _ Hs1 H1 rh1 .refl s1 gv_rng⟩
    · rw [if_neg c] at p1
      exact p1.elim
  · exact p1.elim
theorem si_range2 (hg : Gl X "range") (hm : X.mg "range" = none) (ha : SA X W [e, e2] fa) (hs : starEach [e, e2] X.env = [(false, eval e X.env), (false, eval e2 X.env)] := by rfl) (hs2 : starEach [e2] X.env = [(false, eval e2 X.env)] := by rfl) : SI X W tg (.Call (.Name "range" p) [e, e2] [] pos) (iRng iRg2 fa) := by
  obtain ⟨t, h, r⟩ := ha
  refine ⟨_, pi_range2 hg hm h hs hs2, fun Hs H rh sg et m Q s p => ?_⟩
  unfold iRng at p
  refine r Hs H rh sg et m _ s (PostI.step p fun as m1 vs Hs1 H1 rh1 x1 s1 r1 p1 => ?_)
  unfold iRg2 at p1
  split at p1
  · rename_i i j
    obtain ⟨v, u, rfl, r2, r3⟩ := as2 r1
    by_cases c : -(2 ^ 62) ≤ i ∧ i < 2 ^ 62 ∧ -(2 ^ 62) ≤ j ∧ j < 2 ^ 62
    · rw [if_pos c] at p1
      exact ⟨i, j, by rw [va_int r2, va_int r3], c, p1 _ Hs1 H1 rh1 .refl s1 gv_rng⟩
    · rw [if_neg c] at p1
      exact p1.elim
  · exact p1.elim
end
end DL
set_option maxHeartbeats 4000000
namespace DL
open PySem PySem.Spec PyProof.Rows L2
/-! ## Comprehensions -/
abbrev WF : WX := fun _ _ _ _ => False
def cE (K : PySem.W.Frag) (f : Env → Mu → R Va) : TE := fun sg H Q => ∃ Hs rh et m, SR K Hs H rh sg et m ∧ Post K WF (RlA K) Hs H rh sg et Q (f et m)
def cT (K : PySem.W.Frag) (f : Env → Mu → R Bool) : TT := fun sg H Q => ∃ Hs rh et m, SR K Hs H rh sg et m ∧ Post K WF RlB Hs H rh sg et Q (f et m)
theorem SE.canon {X : Cx} {e : Expr} {f : Env → Mu → R Va} (h : SE X WF e f) : PE X e (cE X.K f) := by
  obtain ⟨t, p, r⟩ := h
  exact ⟨fun pins s sg H Q I ⟨Hs, rh, et, m, h1, h2⟩ => p.run pins s sg H Q I (r Hs H rh sg et m Q h1 h2)⟩
theorem ST.canon {X : Cx} {e : Expr} {f : Env → Mu → R Bool} (h : ST X WF e f) : PT X e (cT X.K f) := by
  obtain ⟨t, p, r⟩ := h
  exact ⟨fun pins s sg H Q I ⟨Hs, rh, et, m, h1, h2⟩ => p.run pins s sg H Q I (r Hs H rh sg et m Q h1 h2)⟩
/-- the tests: none, or one -/
def STs (X : Cx) (ifs : List Expr) (f : Env → Mu → R Bool) : Prop := PTs X ifs (cT X.K f)
@[simp] def pYes : Env → Mu → R Bool := fun _ m => .ok true m
theorem sts_nil {X : Cx} : STs X [] pYes := by
  have h : PTs X [] tYes := pts_nil
  exact ⟨fun pins s sg H Q I ⟨Hs, rh, et, m, h1, h2⟩ => h.run pins s sg H Q I (h2 true Hs H rh .refl h1 rfl)⟩
theorem sts_one {X : Cx} {e : Expr} {f : Env → Mu → R Bool} (h : ST X WF e f) : STs X [e] f := pts_one h.canon
section
variable {K : PySem.W.Frag} {Hs H Hs1 H1 : Hp} {rh rh1 : List Addr} {sg : St2} {et : Env} {m : Mu}
/-- a thing beside is written -/
theorem SR.aside (s : SR K Hs H rh sg et m) {p : Addr} {o : HO} (h1 : Hs p = none) (h2 : p ∉ rh) : SR K Hs (upd H p o) rh sg et m := by
  refine ⟨⟨fun b u e => by rw [upd_ne (ne_of_none e h1)]; exact s.sc.same b u e, s.sc.mlen, fun n c e => ?_, s.sc.nd, fun a ha => ?_⟩, s.len, s.val⟩
  · obtain ⟨a, u, e1, e2, e3, e4⟩ := s.sc.cell n c e
    exact ⟨a, u, e1, e2, by rw [upd_ne (fun z => h2 (by rw [← z]; exact List.mem_of_getElem? e1))]; exact e3, e4⟩
  · by_cases q : a = p
    · rw [q, upd_same]
      exact fun z => nomatch z
    · rw [upd_ne q]
      exact s.sc.old a ha
theorem Ext.aside (x : Ext Hs H rh Hs1 H1 rh1) {p : Addr} {o : HO} (h0 : H p = none) : Ext Hs H rh Hs1 (upd H1 p o) rh1 :=
  ⟨x.sub, x.pre, fun b u e n => by rw [upd_ne (ne_of_none e h0)]; exact x.keep b u e n, fun b hb => by
    by_cases q : b = p
    · rw [q, upd_same]
      exact fun z => nomatch z
    · rw [upd_ne q]
      exact x.there b hb, x.new, x.froz⟩
theorem Ext.freeAt (x : Ext Hs H rh Hs1 H1 rh1) {p : Addr} {o : HO} (h0 : H p = some o) (h1 : Hs p = none) (h2 : p ∉ rh) : H1 p = some o ∧ Hs1 p = none ∧ p ∉ rh1 := by
  refine ⟨x.keep p o h0 h2, ?_, fun z => (x.new p z).elim h2 fun q => by rw [q] at h0; cases h0⟩
  cases q : Hs1 p with
  | none => rfl
  | some u =>
    rcases x.froz p (by rw [q]; exact fun z => nomatch z) with z | z | z
    · exact absurd h1 z
    · rw [z] at h0; cases h0
    · exact absurd z h2
@[simp] def wipeD (et : Env) : List Nat → Env
  | [] => et
  | v :: vs => (wipeD et vs).set v none
theorem SR.wipes (s : SR K Hs H rh sg et m) : ∀ vs : List Nat, SR K Hs H rh (L2.wipe sg vs) (wipeD et vs) m
  | [] => s
  | v :: vs => (SR.wipes s vs).wipe
end
/-- nothing is raised out of a comprehension -/
@[simp] def noX {a : Type} : R a → R a
  | .exc _ _ _ => .stuck
  | r => r
def dLc (t : Va → Env → Env) (p : Env → Mu → R Bool) (f : Env → Mu → R Va) (et : Env) : List Va → Mu → List D → R (List D)
  | [], m, acc => .ok acc m
  | x :: xs, m, acc => (noX (p (t x et) m)).bind fun b m => match b with
    | true => (noX (f (t x et) m)).bind fun y m => (match y with
      | .d d => if acc.length < sizeLine then dLc t p f et xs m (acc ++ [d]) else .stuck
      | _ => .stuck)
    | false => dLc t p f et xs m acc
def xLc (fi : Env → Mu → R (List Va)) (vs : List Nat) (t : Va → Env → Env) (p : Env → Mu → R Bool) (f : Env → Mu → R Va) : Env → Mu → R (List D) := fun et m => (fi et m).bind fun xs m => dLc t p f (wipeD et vs) xs m []
/-- how a comprehension's target takes an item -/
def TgLc (K : PySem.W.Frag) (g : TG) (vs : List Nat) (t : Va → Env → Env) (ok : Va → Prop) : Prop := ∀ Hs H rh sg et m x v (Q : St2 → Hp → Prop), ok x → SR K Hs H rh sg et m → RepA K Hs rh x v → (∀ sg', SR K Hs H rh sg' (t x et) m → wipe sg' vs = wipe sg vs → Q sg' H) → g v sg H Q
section
variable {X : Cx} {W : WX} {elt tg iter : Expr} {ifs : List Expr} {scope : Scope} {own : List (Str × Nat)} {pos : Pos} {fi : Env → Mu → R (List Va)} {g : TG} {t : Va → Env → Env} {p : Env → Mu → R Bool} {f : Env → Mu → R Va} {vs : List Nat} {okx : Va → Prop} {wi : TI}
theorem wipe_wipe (sg : St2) : ∀ vs : List Nat, wipe (wipe sg vs) vs = wipe sg vs := by
  intro vs
  apply List.ext_getElem?
  intro i
  have h1 : ∀ (vs : List Nat) (sg : St2), (wipe sg vs)[i]? = if i ∈ vs ∧ i < sg.length then some none else sg[i]? := by
    intro vs
    induction vs with
    | nil => intro sg; simp [wipe]
    | cons v vs ih =>
      intro sg
      unfold wipe
      by_cases hv : v = i
      · subst hv
        by_cases hl : v < sg.length
        · rw [List.getElem?_set_self (by rw [wipe_length]; exact hl)]
          simp [hl]
        · rw [List.getElem?_eq_none (by rw [List.length_set, wipe_length]; omega)]
          have : ¬ (v ∈ v :: vs ∧ v < sg.length) := fun z => hl z.2
          rw [if_neg this, List.getElem?_eq_none (by omega)]
      · rw [List.getElem?_set_ne hv, ih]
        have e : (i ∈ v :: vs) ↔ (i ∈ vs) := by
          rw [List.mem_cons]
          exact ⟨fun z => z.elim (fun q => absurd q.symm hv) id, .inr⟩
        by_cases hm : i ∈ vs
        · simp [hm]
        · have hm2 : i ∉ v :: vs := fun z => hm (e.mp z)
          rw [if_neg (fun z => hm z.1), if_neg (fun z => hm2 z.1)]
  rw [h1 vs (wipe sg vs), h1 vs sg, wipe_length]
  split <;> rfl
theorem lc_read (ri : ∀ Hs H rh sg et m Q, SR X.K Hs H rh sg et m → PostI X.K W Hs H rh sg et Q (fi et m) → wi sg H Q) (hg : TgLc X.K g vs t okx) (hall : ∀ et m xs m', fi et m = .ok xs m' → ∀ x ∈ xs, okx x)
    {Hs0 H0 : Hp} {rh0 : List Addr} {Hs H : Hp} {rh : List Addr} {sg : St2} {et : Env} {m : Mu} {Q : VK} (x0 : Ext Hs0 H0 rh0 Hs H rh) (s : SR X.K Hs H rh sg et m) (z : Post X.K W (RlF X.K H0) Hs H rh sg et Q (xLc fi vs t p f et m)) : tLc wi g (cT X.K p) (cE X.K f) vs sg H Q := by
  unfold xLc at z
  refine ri Hs H rh sg et m _ s ?_
  cases qf : fi et m with
  | exc c d m1 => rw [qf] at z; exact z
  | stuck => rw [qf] at z; exact z
  | ok xs m1 =>
    rw [qf] at z
    have allx := hall et m xs m1 qf
    intro J Hs1 H1 rh1 x1 s1 gv Dd hD
    have hD0 : H0 Dd = none := Classical.byContradiction fun q => (x0.trans x1).there Dd q hD
    have hDs : Hs1 Dd = none := s1.sc.same.free hD
    have hDr : Dd ∉ rh1 := fun q => s1.sc.old Dd q hD
    have z1 : Post X.K W (RlF X.K H0) Hs1 H1 rh1 sg et Q (dLc t p f (wipeD et vs) xs m1 []) := Post.ext x1 z
    refine ⟨fun i n H' => n = xs.length - i ∧ i ≤ xs.length ∧ ∃ Hs' rh' m' acc us, SR X.K Hs' H' rh' sg et m' ∧ Ext Hs1 H1 rh1 Hs' H' rh' ∧ Hs' Dd = none ∧ Dd ∉ rh' ∧ H' Dd = some (.lst us) ∧ Reps X.K Hs' acc us ∧ Post X.K W (RlF X.K H0) Hs1 H1 rh1 sg et Q (dLc t p f (wipeD et vs) (xs.drop i) m' acc),
      ⟨xs.length, rfl, Nat.zero_le _, Hs1, rh1, m1, [], [], s1.aside hDs hDr, Ext.refl.aside hD, hDs, hDr, upd_same, reps_nil.mpr rfl, by simpa using z1⟩, ?_⟩
    rintro i n H2 ⟨rfl, hle, Hs2, rh2, m2, acc, us, s2, x2, d1, d2, d3, ra, z2⟩
    obtain ⟨g1, g2⟩ := gv Hs2 H2 rh2 m2 s2.sc x2.sub x2.pre i
    by_cases hlt : i < xs.length
    · obtain ⟨go, yl⟩ := g1 hlt
      have hd : xs.drop i = xs[i] :: xs.drop (i + 1) := List.drop_eq_getElem_cons hlt
      rw [hd] at z2
      have z3 : Post X.K W (RlF X.K H0) Hs1 H1 rh1 sg et Q ((noX (p (t xs[i] (wipeD et vs)) m2)).bind fun b m => match b with
        | true => (noX (f (t xs[i] (wipeD et vs)) m)).bind fun y m => (match y with
          | .d d => if acc.length < sizeLine then dLc t p f (wipeD et vs) (xs.drop (i + 1)) m (acc ++ [d]) else .stuck
          | _ => .stuck)
        | false => dLc t p f (wipeD et vs) (xs.drop (i + 1)) m acc) := z2
      refine .inr ⟨go, fun H' => i + 1 ≤ xs.length ∧ ∃ Hs' rh' m' acc us, SR X.K Hs' H' rh' sg et m' ∧ Ext Hs1 H1 rh1 Hs' H' rh' ∧ Hs' Dd = none ∧ Dd ∉ rh' ∧ H' Dd = some (.lst us) ∧ Reps X.K Hs' acc us ∧ Post X.K W (RlF X.K H0) Hs1 H1 rh1 sg et Q (dLc t p f (wipeD et vs) (xs.drop (i + 1)) m' acc), fun H' h => ⟨xs.length - (i + 1), by omega, rfl, h.1, h.2⟩, fun x H3 hy => ?_⟩
      obtain ⟨Hs3, sc3, x3, rep3⟩ := yl x H3 hy
      have s3 : SR X.K Hs3 H3 rh2 sg et m2 := s2.ext x3 sc3
      obtain ⟨e1, e2, e3⟩ := x3.freeAt d3 d1 d2
      have ra3 := ra.mono x3.sub
      refine hg Hs3 H3 rh2 (wipe sg vs) (wipeD et vs) m2 xs[i] x _ (allx _ (List.getElem_mem hlt)) (s3.wipes vs) (rep3 _ (List.getElem?_eq_getElem hlt)) fun sg4 s4 hw => ⟨by rw [hw, wipe_wipe], Hs3, rh2, t xs[i] (wipeD et vs), m2, s4, ?_⟩
      cases qp : p (t xs[i] (wipeD et vs)) m2 with
      | ok b m5 =>
        rw [qp] at z3
        intro b' Hs5 H5 rh5 x5 s5 eb
        have eb' : b = b' := eb
        subst eb'
        obtain ⟨f1, f2, f3⟩ := x5.freeAt e1 e2 e3
        have x15 := (x2.trans x3).trans x5
        have ra5 := ra3.mono x5.sub
        have s5' : SR X.K Hs5 H5 rh5 sg et m5 := s3.ext x5 s5.sc
        cases b with
        | true =>
          refine iteT ⟨Hs5, rh5, t xs[i] (wipeD et vs), m5, s5, ?_⟩
          simp only [noX, R.bind_ok] at z3
          cases qe : f (t xs[i] (wipeD et vs)) m5 with
          | ok y m6 =>
            rw [qe] at z3
            cases y with
            | l n => exact z3.elim
            | d d =>
              simp only [noX, R.bind_ok] at z3
              intro v Hs6 H6 rh6 x6 s6 rv
              obtain ⟨h1, h2, h3⟩ := x6.freeAt f1 f2 f3
              by_cases cl : acc.length < sizeLine
              · rw [if_pos cl] at z3
                refine ⟨us, h1, by rw [ra.length]; exact cl, hlt, Hs6, rh6, m6, acc ++ [d], us ++ [v], (s5'.ext x6 s6.sc).aside h2 h3, (x15.trans x6).aside hD, h2, h3, upd_same, (ra5.mono x6.sub).append (Reps.one rv), z3⟩
              · rw [if_neg cl] at z3
                exact z3.elim
          | exc c d m6 => rw [qe] at z3; exact z3.elim
          | stuck => rw [qe] at z3; exact z3.elim
        | false => exact iteF ⟨hlt, Hs5, rh5, m5, acc, us, s5', x15, f2, f3, f1, ra5, z3⟩
      | exc c d m5 => rw [qp] at z3; exact z3.elim
      | stuck => rw [qp] at z3; exact z3.elim
    · have hi : i = xs.length := by omega
      subst hi
      refine .inl ⟨g2 rfl, ?_⟩
      rw [List.drop_length] at z2
      exact z2 (.ref Dd) Hs2 H2 rh2 x2 s2 ⟨Dd, us, rfl, hD0, d1, d2, d3, ra⟩
theorem tgLc_name {K : PySem.W.Frag} {i : Nat} : TgLc K (gName i) [i] (fun x e => e.set i (some x)) (fun _ => True) := fun Hs H rh sg et m x v Q _ s r q => q _ (s.set r) (by
  show (List.set (List.set sg i (some v)) i none) = List.set sg i none
  rw [List.set_set])
abbrev tN (i : Nat) : Va → Env → Env := fun x e => e.set i (some x)
theorem sf_lc {i : Nat} (hc : X.calm = true) (hN : X.N.Nodup) (hi : SI X W tg iter fi) (ok : BlkOk X.N X.env.scope scope own) (ho : own.map (·.2) = [i])
    (hg : ∀ (s : Shared) (H : Hp) (C : Addr) (cl : List (Str × Addr)) (fp : List Addr), PG (X.blk s H scope (compEnvC scope cl C X.env) fp) tg (gName i)) (ht : ∀ (s : Shared) (H : Hp) (C : Addr) (cl : List (Str × Addr)) (fp : List Addr), STs (X.blk s H scope (compEnvC scope cl C X.env) fp) ifs p)
    (he : ∀ (s : Shared) (H : Hp) (C : Addr) (cl : List (Str × Addr)) (fp : List Addr), SE (X.blk s H scope (compEnvC scope cl C X.env) fp) WF elt f) (hs : ∀ x, foldedSetIterable iter X.env x = pure x := by intro _; rfl) :
    SF X W (.ListComp elt [⟨tg, iter, ifs, 0⟩] scope pos) (xLc fi [i] (tN i) p f) := by
  obtain ⟨wi, hi, ri⟩ := hi
  refine ⟨_, pe_lc (tt := cT X.K p) (te := cE X.K f) hc hN hi ok hg ht (fun s H C cl fp => (he s H C cl fp).canon) hs, fun Hs H rh sg et m Q s z => ?_⟩
  rw [ho]
  exact lc_read ri tgLc_name (fun _ _ _ _ _ _ _ => trivial) .refl s z
theorem asgF_read {te : TE} {i : Nat} {fl : Env → Mu → R (List D)} (r : ∀ Hs H rh sg et m Q, SR X.K Hs H rh sg et m → Post X.K W (RlF X.K H) Hs H rh sg et Q (fl et m) → te sg H Q) {Hs H : Hp} {rh : List Addr} {sg : St2} {et : Env} {m : Mu} {Dn : Ends} (s : SR X.K Hs H rh sg et m) :
    (PostS X.K W Hs H rh Dn (zAsg (xFrz fl) (gN i) et m) → te sg H fun x H1 => gName i x sg H1 Dn.nx) ∧ (PostS X.K W Hs H rh Dn (zAsg (xCel fl) (gN i) et m) → te sg H fun x H1 => gName i x sg H1 Dn.nx) := by
  refine ⟨fun z => r Hs H rh sg et m _ s ?_, fun z => r Hs H rh sg et m _ s ?_⟩
  · unfold zAsg xFrz at z
    cases q : fl et m with
    | ok ds m1 =>
      rw [q] at z
      intro v Hs1 H1 rh1 x1 s1 r1
      obtain ⟨Hs2, x2, s2, r2⟩ := RlF.frz x1 s1 r1
      exact z _ Hs2 H1 rh1 x2 (s2.set r2)
    | exc c d m1 => rw [q] at z; exact fun dx v Hs1 H1 rh1 x1 s1 h1 h2 => z dx v sg Hs1 H1 rh1 x1 s1 h1 h2
    | stuck => rw [q] at z; exact z
  · unfold zAsg xCel at z
    cases q : fl et m with
    | ok ds m1 =>
      rw [q] at z
      intro v Hs1 H1 rh1 x1 s1 r1
      obtain ⟨rh2, x2, s2, r2⟩ := RlF.cel x1 s1 r1
      exact z _ Hs1 H1 rh2 x2 (s2.set r2)
    | exc c d m1 => rw [q] at z; exact fun dx v Hs1 H1 rh1 x1 s1 h1 h2 => z dx v sg Hs1 H1 rh1 x1 s1 h1 h2
    | stuck => rw [q] at z; exact z
theorem ss_setLc {i j : Nat} {y : Str} {py spos : Pos} (hc : X.calm = true) (hN : X.N.Nodup) (hy : X.N[j]? = some y) (hyl : X.env.scope.names.lookup y = some .local)
    (hsw : swapsWith (.ListComp elt [⟨tg, iter, ifs, 0⟩] scope pos) (some (.Name y py)) spos.line X.env = pure true) (hi : SI X W tg iter fi) (ok : BlkOk X.N X.env.scope scope own) (ho : own.map (·.2) = [i])
    (hg : ∀ (s : Shared) (H : Hp) (C : Addr) (cl : List (Str × Addr)) (fp : List Addr), PG (X.blk s H scope (compEnvC scope cl C X.env) fp) tg (gName i)) (ht : ∀ (s : Shared) (H : Hp) (C : Addr) (cl : List (Str × Addr)) (fp : List Addr), STs (X.blk s H scope (compEnvC scope cl C X.env) fp) ifs p)
    (he : ∀ (s : Shared) (H : Hp) (C : Addr) (cl : List (Str × Addr)) (fp : List Addr), SE (X.blk s H scope (compEnvC scope cl C X.env) fp) WF elt f) (hs : ∀ x, foldedSetIterable iter X.env x = pure x := by intro _; rfl) :
    SS X W (.Assign [.Name y py] (.ListComp elt [⟨tg, iter, ifs, 0⟩] scope pos) spos) (zAsg (xFrz (xLc fi [i] (tN i) p f)) (gN j)) ∧ SS X W (.Assign [.Name y py] (.ListComp elt [⟨tg, iter, ifs, 0⟩] scope pos) spos) (zAsg (xCel (xLc fi [i] (tN i) p f)) (gN j)) := by
  obtain ⟨wi, hi, ri⟩ := hi
  have ps := ps_setLc (tt := cT X.K p) (te := cE X.K f) hc hN hy hyl hsw hi ok hg ht (fun s H C cl fp => (he s H C cl fp).canon) hs
  rw [ho] at ps
  have rd : ∀ Hs H rh sg et m Q, SR X.K Hs H rh sg et m → Post X.K W (RlF X.K H) Hs H rh sg et Q (xLc fi [i] (tN i) p f et m) → tLc wi (gName i) (cT X.K p) (cE X.K f) [i] sg H Q := fun Hs H rh sg et m Q s z => lc_read ri tgLc_name (fun _ _ _ _ _ _ _ => trivial) .refl s z
  exact ⟨⟨_, ps, fun Hs H rh sg et m Dn s z => (asgF_read rd s).1 z⟩, ⟨_, ps, fun Hs H rh sg et m Dn s z => (asgF_read rd s).2 z⟩⟩
end
end DL
set_option maxHeartbeats 4000000
namespace DL
open PySem PySem.Spec PyProof.Rows L2
/-! ## Reckoning with mirrors -/
def TurnP (P : RS → Prop) (J : Env → Mu → Prop) : RS → Prop
  | .nx e m => J e m
  | .cnt e m => J e m
  | .brk e m => P (.nx e m)
  | r => P r
section
variable {P : RS → Prop} {J : Env → Mu → Prop} {e : Env} {m : Mu} {v : Va} {c : Str} {d : D}
@[simp] theorem turnP_nx : TurnP P J (.nx e m) = J e m := rfl
@[simp] theorem turnP_cnt : TurnP P J (.cnt e m) = J e m := rfl
@[simp] theorem turnP_brk : TurnP P J (.brk e m) = P (.nx e m) := rfl
@[simp] theorem turnP_ret : TurnP P J (.ret v e m) = P (.ret v e m) := rfl
@[simp] theorem turnP_exc : TurnP P J (.exc c d e m) = P (.exc c d e m) := rfl
@[simp] theorem turnP_stuck : TurnP P J .stuck = P .stuck := rfl
variable {t : Va → Env → Mu → RS} {b : Env → Mu → RS}
theorem dFor_turn {x : Va} {xs : List Va} : dFor t b (x :: xs) e m = ((t x e m).stored b).loop (dFor t b xs) := by
  show (t x e m).stored (fun e m => (b e m).loop (dFor t b xs)) = _
  cases t x e m <;> rfl
theorem dFor_rule (P : RS → Prop) : ∀ {xs : List Va} (Iv : Nat → Env → Mu → Prop) {e : Env} {m : Mu}, Iv 0 e m →
    (∀ (i : Nat) x e m, xs[i]? = some x → Iv i e m → TurnP P (Iv (i + 1)) ((t x e m).stored b)) → (∀ e m, Iv xs.length e m → P (.nx e m)) → P (dFor t b xs e m)
  | [], Iv, e, m, h0, _, hd => hd e m h0
  | x :: xs, Iv, e, m, h0, hs, hd => by
    rw [dFor_turn]
    have h1 := hs 0 x e m rfl h0
    have ih : ∀ e' m', Iv 1 e' m' → P (dFor t b xs e' m') := fun e' m' h => dFor_rule P (fun i => Iv (i + 1)) h (fun i y e m hy hi => hs (i + 1) y e m (by simpa using hy) hi) fun e m h => hd e m (by simpa using h)
    cases q : (t x e m).stored b with
    | nx e' m' => rw [q] at h1; exact ih e' m' h1
    | cnt e' m' => rw [q] at h1; exact ih e' m' h1
    | brk e' m' => rw [q] at h1; exact h1
    | ret v e' m' => rw [q] at h1; exact h1
    | exc c d e' m' => rw [q] at h1; exact h1
    | stuck => rw [q] at h1; exact h1
/-- a comprehension that maps -/
theorem dLc_map {tt : Va → Env → Env} {f : Env → Mu → R Va} {et : Env} (F : Va → D) (m : Mu) : ∀ (xs : List Va) (acc : List D), (∀ x ∈ xs, f (tt x et) m = .ok (.d (F x)) m) → acc.length + xs.length ≤ sizeLine → dLc tt pYes f et xs m acc = .ok (acc ++ xs.map F) m
  | [], acc, _, _ => by simp [dLc]
  | x :: xs, acc, h, hl => by
    have h1 := h x (List.mem_cons_self ..)
    have hc : acc.length < sizeLine := by rw [List.length_cons] at hl; omega
    have ih := dLc_map F m xs (acc ++ [F x]) (fun y hy => h y (List.mem_cons_of_mem _ hy)) (by rw [List.length_append, List.length_singleton]; rw [List.length_cons] at hl; omega)
    simp only [dLc, pYes, noX, R.bind_ok, h1, hc, if_true]
    rw [ih]
    simp
end
end DL
namespace DL
open PySem PySem.Spec PyProof.Rows L2
/-- a constant of the module -/
structure GC (K : PySem.W.Frag) (mg : Str → Option Value) (x : Str) (d : D) : Prop where
  ex : ∃ v u, mg x = some u ∧ RelV v u ∧ ∀ Hs, Rep K Hs d v
theorem se_gc {X : Cx} {W : WX} {x : Str} {d : D} {pos : Pos} (h : GC X.K X.mg x d) (hg : Gl X x) (hd : (x == ("__debug__" : Str)) = false := by decide) : SE X W (.Name x pos) (xC d) :=
  let ⟨_, _, h1, h2, h3⟩ := h.ex
  se_glob hg h1 h2 h3 hd
theorem un65 {k : Nat} {A : Around} (r : Room k A) : A.units + 65 < cLine := by have := r.un; omega
/-- a def as the top leaves it -/
structure DefOk (K : PySem.W.Frag) (mg : Str → Option Value) (glob name qual : Str) (st : Stmt) : Prop where
  ex : ∃ f fd, mg glob = some (.ref f) ∧ FunD K name qual (defArgs st) (defBody st) (defScope st) [] [] f fd
theorem okP {P : Program} {w : World} {K : PySem.W.Frag} {mg : Str → Option Value} {base : Heap} {x name qual : Str} {st : Stmt} {N ps : List Str} {k n : Nat} {F : List D → R0} {g : Env → Mu → RS} (h : DefOk K mg x name qual st) (S : FnScope N ps (defScope st)) (hn : ps.length = n)
    (hb : ∀ (kV doc pm : Value) (an : Option Addr) (cdv ct : Value) (us : List Value), us.length = ps.length → bindArgs (PySem.W.fnOf name qual (defArgs st) (defBody st) (defScope st) .none kV doc pm an cdv ct) ⟨us, []⟩ = pure (ps.zip us))
    (sb : ∀ (f : Addr) cd A outer s H E, Cok (cxD P w K mg base N qual (defScope st) f cd A outer s H E) (fun c d _ H => E c d H) k → SB (cxD P w K mg base N qual (defScope st) f cd A outer s H E) (fun c d _ H => E c d H) (defBody st) g)
    (hF : ∀ ds, ds.length = n → F ds ≠ .stuck → outP (g (startD N.length (ds.map .d)) []) = F ds) : FnP P w K mg base (k + 1) x n F := by
  obtain ⟨f, fd, hm, F0⟩ := h.ex
  exact fnP_of hm F0 S (F0.bindsN hb) hn (sb f) hF
theorem okS {P : Program} {w : World} {K : PySem.W.Frag} {mg : Str → Option Value} {base : Heap} {x name qual : Str} {st : Stmt} {N ps : List Str} {k n : Nat} {F : List Va → Mu → R Va} {g : Env → Mu → RS} (h : DefOk K mg x name qual st) (S : FnScope N ps (defScope st)) (hn : ps.length = n)
    (hb : ∀ (kV doc pm : Value) (an : Option Addr) (cdv ct : Value) (us : List Value), us.length = ps.length → bindArgs (PySem.W.fnOf name qual (defArgs st) (defBody st) (defScope st) .none kV doc pm an cdv ct) ⟨us, []⟩ = pure (ps.zip us))
    (sb : ∀ (f : Addr) cd A outer s H E, Cok (cxD P w K mg base N qual (defScope st) f cd A outer s H E) (fun c d _ H => E c d H) k → SB (cxD P w K mg base N qual (defScope st) f cd A outer s H E) (fun c d _ H => E c d H) (defBody st) g)
    (hF : ∀ as m, as.length = n → F as m ≠ .stuck → OutS m (g (startD N.length as) m) (F as m)) : FnS P w K mg base (k + 1) x n F := by
  obtain ⟨f, fd, hm, F0⟩ := h.ex
  exact fnS_of hm F0 S (F0.bindsN hb) hn (sb f) hF
/-! ints -/
theorem atI_ints {ns : List Int} {i : Int} (h0 : 0 ≤ i) (h : i < ns.length) : atI (ns.map D.int) i = some (.int (ns.getD i.toNat 0)) := by
  have h2 : i.toNat < ns.length := by omega
  unfold atI ixN
  rw [if_pos h0, List.length_map, if_pos h]
  simp [h2]
theorem cmul_r {i j : Int} (h1 : -(2 ^ 64) < j) (h2 : j < 2 ^ 64) : CMul i j := .inr ⟨h1, h2⟩
/-- the ints of a list -/
def intsOf : List D → Option (List Int)
  | [] => some []
  | .int i :: r => (intsOf r).map (i :: ·)
  | _ :: _ => none
@[simp] theorem intsOf_map : ∀ ns : List Int, intsOf (ns.map .int) = some ns
  | [] => rfl
  | n :: ns => by
    show (intsOf (ns.map .int)).map (n :: ·) = _
    rw [intsOf_map ns]
    rfl
theorem intsOf_eq : ∀ {ds : List D} {ns : List Int}, intsOf ds = some ns → ds = ns.map .int
  | [], ns, h => by cases h; rfl
  | d :: r, ns, h => by
    cases d with
    | int i =>
      have h' : (intsOf r).map (i :: ·) = some ns := h
      cases q : intsOf r with
      | none => rw [q] at h'; cases h'
      | some ms =>
        rw [q] at h'
        cases h'
        rw [intsOf_eq q]
        rfl
    | _ => cases h
theorem cut_set {m : Mu} {n : Nat} {c : Ce} (h : LowC m.length c) : Cut m (m.set n (some c)) (m.set n (some c)) := by
  refine ⟨by rw [List.length_set], List.prefix_refl _, fun i d e => ?_⟩
  by_cases hi : n = i
  · subst hi
    have hl : n < m.length := by
      have q := (List.getElem?_eq_some_iff.mp e).1
      rwa [List.length_set] at q
    rw [List.getElem?_set_self hl] at e
    cases e
    exact .inr h
  · rw [List.getElem?_set_ne hi] at e
    exact .inl e
theorem Cut.refl (m : Mu) : Cut m m m := ⟨rfl, List.prefix_refl _, fun _ _ e => .inl e⟩
end DL
namespace DL
open PySem PySem.Spec PyProof.Rows L2
/-! data of one piece -/
@[simp] theorem shaped_int (i : Int) : SeqAt.shaped (.int i) = true := rfl
@[simp] theorem shaped_bool (i : Bool) : SeqAt.shaped (.bool i) = true := rfl
@[simp] theorem shaped_none : SeqAt.shaped .none = true := rfl
@[simp] theorem eqv_int (i j : Int) : PyData.eqv (.int i) (.int j) = (i == j) := rfl
@[simp] theorem eqv_str (i j : Str) : PyData.eqv (.str i) (.str j) = (i == j) := rfl
@[simp] theorem eqv_bool (i j : Bool) : PyData.eqv (.bool i) (.bool j) = (i == j) := rfl
@[simp] theorem eqv_none : PyData.eqv .none .none = true := rfl
@[simp] theorem cdivn_997 (i : Int) : CDivN i 997 := ⟨by decide, by decide⟩
theorem sizeLine_lt {n : Nat} (h : n ≤ 16000000) : n < sizeLine := by rw [sizeLine_eq]; omega
end DL
set_option maxHeartbeats 4000000
/-! Errors over PageError, over Exception, whose __init__ keeps one field "at": made, raised, read. -/
namespace PySem
namespace ErrX
open PySem.W PySem.Calls PyProof.Rows PySem.HandSPX
abbrev exB : List Value := [.type "Exception", .type "BaseException", .type "object"]
def iA (p1 p2 : Pos) : Arguments := { posonlyargs := [], args := [{ arg := "self", annotation := none, pos := p1 }, { arg := "at", annotation := none, pos := p2 }], vararg := none, kwonlyargs := [], kw_defaults := [], kwarg := none, defaults := [] }
def iS : Scope := { kind := .function, names := [(PySem.Str.ofString "self", .local), (PySem.Str.ofString "at", .local)], isGenerator := false, isCoroutine := false, more := [] }
def iB (q1 q2 q3 q4 : Pos) : List Stmt := [.Assign [.Attribute (.Name "self" q1) "at" q2] (.Name "at" q3) q4]
/-- what the written part says of the error class named cn, at C, and of its __init__, at fI -/
structure ErrTxt (K : Frag) (mg : Str → Option Value) (cn qn : Str) (C fI : Addr) : Prop where
  gC : mg cn = some (.ref C)
  cls : ∃ nm q N bs bm sn sub ab col dd k0 k1 k2 k3 k5, K.lookup C = some (excClassObj nm q C N bs bm true sn sub ab col dd k0 k1 k2 k3 k5 "Exception.__new__") ∧ excTail exB bm = true
  sa : findIn K (.ref C) "__setattr__" = some (some (.builtin "object.__setattr__"))
  ga : findIn K (.ref C) "__getattribute__" = some (some (.builtin "BaseException.__getattribute__"))
  gg : findIn K (.ref C) "__getattr__" = some none
  noN : findIn K (.ref C) "at" = some none
  iC : findIn K (.ref C) "__init__" = some (some (.ref fI))
  tC : typeIn K (.ref fI) = some (.type "function")
  kC : keepIn K (.ref C) = true
  exC : subIn K (.ref C) (.type "BaseException") = some true
  tyC : typeIn K (.ref C) = some (.type "type")
  hdC : hasDictIn K C = true
  fn : ∃ (oc : Value) (od : Option Addr) (kV doc pm : Value) (an : Option Addr) (cdv ct : Value) (osl : Array (Option Value)) (p1 p2 q1 q2 q3 q4 : Pos) (dpre : List Stmt),
    K.lookup fI = some ⟨oc, od, .func (fnOf "__init__" qn (iA p1 p2) (dpre ++ iB q1 q2 q3 q4) iS .none kV doc pm an cdv ct), osl⟩ ∧ codeIn K cdv qn = true ∧ dpre = []
theorem one_sz (v : Value) : [v].length ≤ sizeLine := by
  rw [sizeLine_eq]
  exact (by decide : 1 ≤ 16777216)
theorem ldL {M : Model} {s : Shared} {name : Str} {scope : Scope} {L a : Addr} {cd : Value} {m : Str → Option Value} {x : Str} {pos : Pos} {v : Value} {Q : Value → Shared → Prop} {A : Around} {E : Value → Shared → Prop} (hn : s.heap.Ns L m) (hv : m x = some v) (h : Q v s)
    (hk : scope.kind = .function := by rfl) (hl : (envOfC name scope L a cd).kindOf x = some .local := by rfl) (hd : (x == ("__debug__" : Str)) = false := by decide) :
    wpAny M A (eval (.Name x pos) (envOfC name scope L a cd)) Q E s := wpAny_Name (wpAny_loadName_local hk hl hn hv h) hd
structure InitEnd (h h' : Heap) (x C dx t1 : Addr) (v : Value) : Prop where
  keep : ∀ b o, b ≠ x → h.get? b = some o → h'.get? b = some o
  obj : h'.get? x = some { cls := .ref C, dict := some dx, data := .fields #[.ref t1, .none, .none, .none, .bool false, .none] }
  dbig : h.objs.size ≤ dx
  dne : dx ≠ x
  ns : h'.Ns1 dx (fun y => if y = "at" then some v else none)
structure OwnMade (h h' : Heap) (e C d : Addr) (v : Value) : Prop where
  keep : ∀ b o, h.get? b = some o → h'.get? b = some o
  new : h.objs.size ≤ e
  obj : ∃ oe vs, h'.get? e = some oe ∧ oe.cls = .ref C ∧ oe.dict = some d ∧ oe.data = .fields vs ∧ vs[1]? = some .none ∧ vs[2]? = some .none
  dbig : h.objs.size ≤ d
  dne : d ≠ e
  ns : h'.Ns1 d (fun y => if y = "at" then some v else none)
section
open Builtin Builtin.ObjectAttr
variable {prog : Program} {w : World} {A : Around} {R : Result → Shared → Prop} {hp : Heap} {g : Array GenState} {d : Drawn} {t : Nat} {os : OsState}
/-- the first store into such an error -/
theorem err_osa {K : W.Frag} {name : Str} {tk : Tok} {v : Value} {x C : Addr} {fv : Array Value} {cd : ClassData}
    (X : K.In hp) (hx : hp.get? x = some { cls := .ref C, data := .fields fv }) (hcd : W.clsIn K C = some cd) (hm : excTail exB cd.mro = true) (hh : cd.hasDict = true) (ha : W.findIn K (.ref C) name = some none)
    (hq : ∀ h' tk' dx, (∀ b o, b ≠ x → hp.get? b = some o → h'.get? b = some o) → hp.objs.size ≤ dx → dx ≠ x → h'.get? x = some { cls := .ref C, dict := some dx, data := .fields fv } →
      h'.Ns1 dx (fun y => if y = name then some v else none) → R (.ok (.ret .none)) ⟨h', g, d, tk', os⟩) :
    codeAny (model prog w) A (.call (.builtin "object.__setattr__") ⟨[.ref x, .str name tk, v], []⟩) R ⟨hp, g, d, t, os⟩ := by
  have I : W.InstAt hp x { cls := .ref C, data := .fields fv } C none := ⟨hx, rfl, rfl, trivial⟩
  have SF := F.store_object
  have hne : ¬ (cd.mro.isEmpty = true) := fun z => by
    rw [List.isEmpty_iff.mp z] at hm
    exact absurd hm (by decide)
  have hob : cd.mro.contains (.type "object") = true := (excTail_contains "object" _ hm).trans (by decide +kernel)
  have hxs : x ≠ hp.objs.size := Nat.ne_of_lt (Heap.lt_size hx)
  have su : W.Looks (model prog w) hp (isInstance (.ref x) (.type "object")) true := I.type.andThen (W.looks_mroIn X (by unfold W.mroIn; rw [hcd, Option.bind_some, if_neg hne, hob]))
  refine codeAny_call_builtin SF.slot.plain SF.entry (@W.check_slot (model prog w) _ _ ⟨hp, g, d, t, os⟩ "object.__setattr__" "object" "__setattr__" (.ref x) [.str name tk, v] [] _ SF.kind SF.split su (SF.args (.ref x) (.str name tk) v) ?_)
  have hmr : W.Looks (model prog w) hp (mroOf (.ref C)) cd.mro := (W.looks_clsIn X hcd).andThen .now
  have L3 : W.Looks (model prog w) hp (storeTaker? none) none := .now
  have hcls : W.Looks (model prog w) hp (classData C) cd := W.looks_clsIn X hcd
  have hps := excTail_pass (.ref x) (F.store_Exception.passes _) cd.mro hm
  rw [W.osa_eq, refuse_eq]
  refine wpAny_bind (wpAny_bind (I.type.at (wpAny_bind (hmr.at ?_))))
  rw [hps]
  refine wpAny_pure (wpAny_bind (I.type.at (wpAny_bind ((W.looks_findIn X ha).at (wpAny_bind (L3.at ?_))))))
  show wpAny _ _ (storeInOwnDict (.ref x) (.ref C) (.str name tk) name v false) _ _ _
  obtain ⟨nm, bs, mro, ns, qn, hd, sn, sb, ab, col, del⟩ := cd
  dsimp only at hh
  subst hh
  unfold storeInOwnDict ownDictForStores
  repeat (first | with_reducible refine store_in_new ?_ ?_ | with_reducible refine wpAny_loadPart_at hx ?_ | with_reducible refine hcls.at ?_ | wp_step)
  · exact ⟨_, #[], _, (Heap.get?_update_ne _ _ _ _ hxs.symm).trans (Heap.get?_push_at rfl rfl), rfl, fun e he => absurd he (by simp), fun _ => rfl⟩
  · intro h' tk' hn' hs
    have hx1 : (hp.push { cls := .type "dict", data := .dict #[] }).get? x = some { cls := .ref C, data := .fields fv } := Heap.get?_push_of_some _ hx
    refine hq h' tk' hp.objs.size (fun b o hb ho => ?_) (Nat.le_refl _) hxs.symm ?_ hn'
    · exact (hs.2 b (Nat.ne_of_lt (Heap.lt_size ho))).trans ((Heap.get?_update_ne _ _ _ _ hb).trans (Heap.get?_push_of_some _ ho))
    · exact (hs.2 x hxs).trans (Heap.get?_update_self _ hx1 rfl)
end
section
variable {prog : Program} {w : World} {A : Around} {E : Value → Shared → Prop} {R : Result → Shared → Prop} {s : Shared} {K : Frag} {mg : Str → Option Value} {cn qn : Str} {C fI : Addr}
theorem err_init (T : ErrTxt K mg cn qn C fI) {x t0 : Addr} {v : Value} (X : K.In s.heap) (hlim : s.heap.NoLimit) (hx : s.heap.get? x = some (excO C t0)) (hnx : K.lookup x = none) (hroom : A.depth < recursionLimit)
    (hq : ∀ h' tk dx, InitEnd s.heap h' x C dx t0 v → R (.ok (.ret .none)) { s with heap := h', toks := tk }) :
    codeAny (model prog w) A (.call (.ref fI) ⟨[.ref x, v], []⟩) R s := by
  obtain ⟨oc, od, kV, doc, pm, an, cdv, ct, osl, p1, p2, q1, q2, q3, q4, dpre, ho, hcd, rfl⟩ := T.fn
  obtain ⟨nm, q, N, bs, bm, sn, sub, ab, col, dd, k0, k1, k2, k3, k5, hC, hbm⟩ := T.cls
  have hcl : clsIn K C = some { name := nm, bases := bs, mro := .ref C :: bm, ns := N, qualname := q, hasDict := true, slotNames := sn, subclasses := sub, abstract := ab, collection := col, hasDel := false } := by unfold clsIn; rw [hC] <;> rfl
  refine Att.call_fn (binds := [("self", .ref x), ("at", v)]) X hlim ho hcd hroom (BindsTo.of_eq (by first | rfl | with_unfolding_all rfl)) (by first | rfl | decide | with_unfolding_all rfl) (fun s1 IC => ?_) rfl rfl rfl
  obtain ⟨h1, tk1, rfl⟩ := IC.toInCall.same
  have k : ∀ b o, s.heap.get? b = some o → h1.get? b = some o := IC.toInCall.keep
  have hn := IC.toInCall.ns
  have X1 : K.In h1 := X.keeps k
  have hx1 := k _ _ hx
  show wpAny _ _ (execs _ _) _ _ _
  refine wpAny_execs_cons (plainObj_wpAny_Assign_Attribute ?_)
  refine ldL (v := v) hn (by first | rfl | with_unfolding_all rfl | kernel_rfl) (ldL (v := .ref x) hn (by first | rfl | with_unfolding_all rfl | kernel_rfl) ?_)
  refine set_plain X1 (ox := excO C t0) (od := none) ⟨hx1, rfl, rfl, trivial⟩ T.sa ?_
  refine err_osa X1 hx1 hcl (show excTail exB (.ref C :: bm) = true from hbm) rfl T.noN (fun h3 tk3 dx k3 dn dne hx3 hn3 => ?_)
  show wpAny _ _ (execs _ _) _ _ _
  have z : s.heap.objs.size < h1.objs.size := hn.lt
  exact wpAny_execs_nil (hq h3 tk3 dx ⟨fun b o hb e => k3 b o hb (k b o e), hx3, Nat.le_of_lt (Nat.lt_of_lt_of_le z dn), dne, hn3⟩)
theorem err_made (T : ErrTxt K mg cn qn C fI) {v : Value} (X : K.In s.heap) (hlim : s.heap.NoLimit) (hroom : A.depth + 1 < recursionLimit)
    (hq : ∀ h' tk e d, OwnMade s.heap h' e C d v → R (.ok (.ret (.ref e))) { s with heap := h', toks := tk }) :
    codeAny (model prog w) A (.call (.ref C) ⟨[v], []⟩) R s := by
  obtain ⟨nm, q, N, bs, bm, sn, sub, ab, col, dd, k0, k1, k2, k3, k5, hC, hbm⟩ := T.cls
  obtain ⟨hp, g, dr, tk, os⟩ := s
  have k : ∀ b o, hp.get? b = some o → ((hp.push (kdv_tup [v])).push (excO C hp.objs.size)).get? b = some o := fun b o e => Heap.get?_push_of_some _ (Heap.get?_push_of_some _ e)
  have hget : ((hp.push (kdv_tup [v])).push (excO C hp.objs.size)).get? (hp.objs.size + 1) = some (excO C hp.objs.size) := by heap_get
  have hnx : K.lookup (hp.objs.size + 1) = none := by
    cases e : K.lookup (hp.objs.size + 1) with
    | none => rfl
    | some o =>
      have z : hp.get? (hp.objs.size + 1) = some o := X _ _ e
      exact absurd (Nat.lt_of_succ_lt (Heap.lt_size z)) (Nat.lt_irrefl _)
  refine call_own F.excBase_Exception (fun X => excTail_contains X bm hbm) (X _ _ hC) (looks_findIn X T.iC) (fun self => bind_fn X self T.tC) (one_sz v) ?_
  refine err_init (s := ⟨(hp.push (kdv_tup [v])).push (excO C hp.objs.size), g, dr, tk, os⟩) T (X.keeps k) (hlim.keeps k) hget hnx ?_ fun h' tk' dx ⟨k', hx, dn, dne, hns⟩ => ?_
  · show A.depth + 1 < recursionLimit
    exact hroom
  · have old : ∀ b o, hp.get? b = some o → h'.get? b = some o := fun b o e => k' b o (Nat.ne_of_lt (Nat.lt_succ_of_lt (Heap.lt_size e))) (k b o e)
    have z : hp.objs.size + 1 + 1 ≤ dx := by
      first
        | (simpa only [Heap.size_push] using dn)
        | exact dn
        | (have q := dn; rw [Heap.size_push, Heap.size_push] at q; exact q)
    exact ⟨rfl, hq h' tk' (hp.objs.size + 1) dx ⟨old, Nat.le_succ _, ⟨_, _, hx, rfl, rfl, rfl, rfl, rfl⟩, Nat.le_trans (Nat.le_trans (Nat.le_succ _) (Nat.le_succ _)) z, dne, hns⟩⟩
end
end ErrX
end PySem
namespace L2
open PySem PySem.Spec PyProof.Rows
theorem relO_at {v : V} {v' : Value} (r : RelV v v') (f : Str) : RelO (List.lookup f [(("at" : Str), v)]) (if f = "at" then some v' else none) := by
  by_cases hw : f = "at"
  · subst hw
    rw [if_pos rfl]
    have q : List.lookup ("at" : Str) [(("at" : Str), v)] = some v := by simp [List.lookup]
    rw [q]
    exact r
  · rw [if_neg hw]
    have qw : (f == ("at" : Str)) = false := by simpa using hw
    have q2 : List.lookup f [(("at" : Str), v)] = none := by simp [List.lookup, qw]
    rw [q2]
    trivial
section
variable {X : Cx} {C fI : Addr} {cn qn : Str}
def tMkErr (C : Addr) (ta : TA) : L2.St → Hp → XK → Prop := fun sg H Q => ta sg H fun vs H1 => ∃ v, vs = [v] ∧ ∀ d, H1 d = none → Q (.ref C) (some d) (upd H1 d (.xd [(("at" : Str), v)]))
theorem pmk_err {a : Expr} {ta : TA} {p pos : Pos} {k : Nat} (T : PySem.ErrX.ErrTxt X.K X.mg cn qn C fI) (hr : Room k X.A) (ha : PA X [a] ta) (hg : Gl X cn) (hdb : (cn == ("__debug__" : Str)) = false := by decide)
    (he : starEach (a :: []) X.env = (false, eval a X.env) :: starEach [] X.env := by rfl) (hpl : (backTo pos (starEach [] X.env)).any (·.1) = false := by rfl) :
    L2N.PMk X (.Call (.Name cn p) [a] [] pos) (tMkErr C ta) := by
  intro pins s sg H Q I h
  refine wpAny_Call_Name_kw (ld_glob I hg T.gC ?_ hdb)
  refine PySem.W.callWith_K (h₀ := X.base) I.ok.mod.kin T.kC (thn (ha.run pos pins s sg H _ I h) fun us s1 hh => ?_) he hpl
  obtain ⟨vs, H1, I1, r1, v, ev, q1⟩ := hh
  subst ev
  refine ⟨I1.kIn, ?_⟩
  cases r1 with
  | cons rv rn =>
    rename_i v' us'
    cases rn
    show wpAny _ _ (call (.ref C) [v']) _ _ _
    have hlim := I1.nolimit
    obtain ⟨hp, g, dr, tk, os⟩ := s1
    refine wpAny_call (PySem.ErrX.err_made T I1.kIn hlim (by have := hr.dp; omega) fun h' tk' e d M => ?_)
    show L2N.MkP X pins sg Q (.ref e) ⟨h', g, dr, tk', os⟩
    obtain ⟨oe, fv, hoe, hc, hd, hdat, h1, h2⟩ := M.obj
    have hns := M.ns
    obtain ⟨G', g1, g2⟩ := restrict h' fun b => decide (b ≠ e)
    have gk : ∀ b, b ≠ e → G'.get? b = h'.get? b := fun b hb => g1 b (decide_eq_true hb)
    have ge : G'.get? e = none := g2 e (by simp)
    have old : ∀ b o, hp.get? b = some o → G'.get? b = some o := fun b o q => (gk b (Nat.ne_of_lt (Nat.lt_of_lt_of_le (Heap.lt_size q) M.new))).trans (M.keep b o q)
    have ob : ObjOk X.prog X.w (upd H1 d (.xd [(("at" : Str), v)])) G' d (.xd [(("at" : Str), v)]) :=
      ⟨_, hns.at (fun o q => (gk d M.dne).trans q), fun f => relO_at rv f⟩
    have J : Inv X pins sg (upd H1 d (.xd [(("at" : Str), v)])) ⟨G', g, dr, tk', os⟩ := I1.laid (t' := tk') old M.dbig ob
    refine ⟨e, oe, fv, ⟨G', g, dr, tk', os⟩, _, .ref C, some d, rfl, J, fun b o q => ?_, ge, hoe, ⟨hc, hd, fun vs e => by rw [hdat] at e; cases e; exact h2⟩, hdat, h1, ?_, rfl, I1.bare, raises_own T.exC T.tyC, q1 d (I1.hok.fresh M.dbig)⟩
    · by_cases hb : b = e
      · have q' : G'.get? b = some o := q
        rw [hb, ge] at q'; cases q'
      · exact (gk b hb).symm.trans q
    · rw [upd_ne (Ne.symm M.dne)]
      exact I1.hok.fresh M.new
def tRaiseErr (C : Addr) (W : WX) (ta : TA) : TS := fun _ sg H => tMkErr C ta sg H fun cls d H' => W cls d sg H'
theorem ps_raiseErr {a : Expr} {ta : TA} {W : WX} {p pos pos2 : Pos} {k : Nat} (hc : X.calm = true) (T : PySem.ErrX.ErrTxt X.K X.mg cn qn C fI) (hr : Room k X.A) (tk : L2N.Takes X W) (ha : PA X [a] ta) (hg : Gl X cn) (hdb : (cn == ("__debug__" : Str)) = false := by decide)
    (he : starEach (a :: []) X.env = (false, eval a X.env) :: starEach [] X.env := by rfl) (hpl : (backTo pos (starEach [] X.env)).any (·.1) = false := by rfl) :
    PS X (.Raise (some (.Call (.Name cn p) [a] [] pos)) none pos2) (tRaiseErr C W ta) := L2N.ps_raise hc tk (pmk_err T hr ha hg hdb he hpl)
def tAtErr (C : Addr) (a : Addr) (cls : Value) (d : Option Addr) (te : TE) : TE := fun sg H Q => te sg H fun x H1 => x = .ref a ∧ cls = .ref C ∧ ∃ (dd : Addr) (v : V), d = some dd ∧ H1 dd = some (.xd [(("at" : Str), v)]) ∧ Q v H1
theorem pe_atErr {a : Addr} {oe : Obj} {cls : Value} {d : Option Addr} {pn : List (Addr × Obj)} {e : Expr} {te : TE} {pos : Pos} (T : PySem.ErrX.ErrTxt X.K X.mg cn qn C fI) (hz : Zc cls d oe) (hf : ∃ vs, oe.data = .fields vs) (he : PE (X.suite a ((a, oe) :: pn)) e te)
    (hb : attributeBase e "at" X.env (eval e X.env) = eval e X.env := by rfl) :
    PE (X.suite a ((a, oe) :: pn)) (.Attribute e "at" pos) (tAtErr C a cls d te) := by
  refine ⟨fun pins s sg H Q I h => ?_⟩
  refine attr_of hb (thn (he.run pins s sg H _ I h) fun u s1 hh => ?_)
  obtain ⟨x, H1, I1, rx, ex, ec, dd, v, ed, ea, q⟩ := hh
  subst ex
  obtain rfl : u = Value.ref a := rx
  subst ec
  subst ed
  obtain ⟨ha, _⟩ := I1.pin (a, oe) (List.mem_append_left _ List.mem_cons_self)
  obtain ⟨vs, hd⟩ := hf
  have hx : ObjOk X.prog X.w H1 s1.heap dd (.xd [(("at" : Str), v)]) := I1.hok dd _ ea
  obtain ⟨mA, hns, hr⟩ := hx
  obtain ⟨od, ho, hl⟩ := lookIn_ns hns
  have l : List.lookup ("at" : Str) [(("at" : Str), v)] = some v := by simp [List.lookup]
  obtain ⟨u, hu, ru⟩ := RelO.some_of (v := v) (o := mA "at") (by rw [← l]; exact hr "at")
  have J : PySem.W.InstAt s1.heap a oe C (some od) := ⟨ha, hz.1, by unfold PySem.W.notCls; rw [hd] <;> rfl, by rw [hz.2]; exact ho⟩
  exact HandSPX.exc_get I1.kIn J T.ga T.gg T.exC (PySem.W.findObj_own T.hdC T.noN rfl (by rw [hl, hu])) (handed_of ru) ⟨v, H1, I1.tok _, ru, q⟩
end
end L2
set_option maxHeartbeats 4000000
/-! A try whose clauses may bear names. -/
namespace L2
open PySem PySem.Spec PyProof.Rows
abbrev ClT := Value × Option Nat × (Addr → Value → Option Addr → TS)
/-- behind the suite the name's slot is empty -/
def gone (i : Nat) (D : Ends) : Ends := { nx := fun sg H => D.nx (sg.set i none) H, rt := D.rt, bk := fun sg H => D.bk (sg.set i none) H, ct := fun sg H => D.ct (sg.set i none) H }
def wCls (K : PySem.W.Frag) (Wout : WX) (D : Ends) : List ClT → WX
  | [] => Wout
  | (c, none, ts) :: r => fun cls d sg H => ∃ b, PySem.W.exmOne K cls c = some b ∧ (b = true → ∀ a, H a = none → ts a cls d D sg H) ∧ (b = false → wCls K Wout D r cls d sg H)
  | (c, some i, ts) :: r => fun cls d sg H => ∃ b, PySem.W.exmOne K cls c = some b ∧ (b = true → ∀ a, H a = none → ts a cls d (gone i D) (sg.set i (some (.ref a))) H) ∧ (b = false → wCls K Wout D r cls d sg H)
inductive ClsOk (X : Cx) : List ExceptHandler → List ClT → Prop
  | nil : ClsOk X [] []
  | cons {x : Str} {c : Value} {ts : Addr → Value → Option Addr → TS} {b₀ : Stmt} {suite : List Stmt} {np pos' : Pos} {hds : List ExceptHandler} {l : List ClT} (hc : Names X x c)
      (hsu : ∀ (a : Addr) (oe : Obj) (cls : Value) (d : Option Addr) (pn : List (Addr × Obj)), L2N.Zn cls d oe → (∃ vs, oe.data = .fields vs) → PSs (X.suite a ((a, oe) :: pn)) (b₀ :: suite) (ts a cls d)) (r : ClsOk X hds l) :
      ClsOk X (.ExceptHandler (some (.Name x np)) none (b₀ :: suite) pos' :: hds) ((c, none, ts) :: l)
  | consN {x n : Str} {c : Value} {ts : Addr → Value → Option Addr → TS} {i : Nat} {b₀ : Stmt} {suite : List Stmt} {np pos' : Pos} {hds : List ExceptHandler} {l : List ClT} (hi : X.N[i]? = some n) (hln : X.env.kindOf n = some .local) (hc : Names X x c)
      (hsu : ∀ (a : Addr) (oe : Obj) (cls : Value) (d : Option Addr) (pn : List (Addr × Obj)), L2N.Zn cls d oe → (∃ vs, oe.data = .fields vs) → PSs (X.suite a ((a, oe) :: pn)) (b₀ :: suite) (ts a cls d)) (r : ClsOk X hds l) :
      ClsOk X (.ExceptHandler (some (.Name x np)) (some n) (b₀ :: suite) pos' :: hds) ((c, some i, ts) :: l)
section
variable {X : Cx} {body : List Stmt} {h₀ : ExceptHandler} {hds : List ExceptHandler} {l : List ClT} {pos : Pos} {tb : WX → TS} {Wout : WX}
theorem ps_try_clauses (hN : X.N.Nodup) (hs : X.stack = X.env :: X.outer) (hf : X.env.frame = some X.env.locals) (tk : L2N.Takes X Wout)
    (hb : ∀ (W : WX) (pn : List (Addr × Obj)) (xe : Value → Shared → Prop), L2N.Takes (X.tr pn xe) W → PassesOwn (model X.prog X.w) X.A X.env xe → PSs (X.tr pn xe) body (tb W))
    (hh : ClsOk X (h₀ :: hds) l) : PS X (.Try body (h₀ :: hds) [] [] pos) (fun D σ H => tb (wCls X.K Wout D l) D σ H) := by
  refine ⟨fun pins s σ H D I h => ?_⟩
  have ok := I.ok
  have hfr : X.A.frames = some (X.env :: X.outer) := by rw [ok.frames, hs]
  refine wpAny_Try_except ?_
  refine wpAny_mono ((hb (wCls X.K Wout D l) (X.pn ++ pins) (fun e s₁ => wpAny (model X.prog X.w) X.A (noteFrame e X.env) (fun _ s₂ => wpAny (model X.prog X.w) X.A (setFlight e none) (fun _ s₃ =>
    wpAny (model X.prog X.w) X.A (handleBy e X.env (h₀ :: hds)) (SP X pins D) X.xe s₃) X.xe s₂) X.xe s₁) (fun u s' xx => ?_) PassesOwn.looking).run [] s σ H D (I.toTry _) h) (fun f s1 hsp => ?_) (fun e s1 he => he)
  · -- the catch
    obtain ⟨a, B, sI, pins', σ', H', cls, d, rfl, J', nb, up, sky, na, os, ag, w⟩ := xx
    have J : Inv X pins σ' H' sI := J'.ofTry ok
    have sky' : Sky B (X.env :: X.outer) a (L2N.Zn cls d) X.env.locals s'.heap := by rw [← hs]; exact sky
    show wpAny (model X.prog X.w) X.A (noteFrame (.ref a) X.env) _ _ _
    refine L2N.Sky.land L2N.Zn.steady hfr hf sky' fun h3 fl3 up3 => ?_
    have J3 : Inv X pins σ' H' { s' with heap := h3 } := J.landed nb fl3.1 (up.trans up3) os ag
    obtain ⟨oe3, vs3, he3, hz3, hd3⟩ := fl3.there
    have notFr : ∀ {h : Heap} {o : Obj} {vs : Array Value}, h.FunFrames B (X.env :: X.outer) → h.get? a = some o → o.data = .fields vs → a ∉ frs (X.env :: X.outer) := fun {h o vs} ff e dd hm => by
      obtain ⟨_, o', e', hnf⟩ := ff.mem hm
      rw [e] at e'; cases e'
      exact hnf _ dd
    have nfr := notFr fl3.2.2.1 he3 hd3
    have nL : a ≠ X.env.locals := fun z => nfr (List.mem_filterMap.mpr ⟨X.env, List.mem_cons_self, by rw [hf, z]⟩)
    have nF : a ∉ X.fs := fun hm => by
      obtain ⟨e, he, q⟩ := List.mem_filterMap.mp hm
      exact nfr (List.mem_filterMap.mpr ⟨e, List.mem_cons_of_mem _ he, q⟩)
    have S3 := J3.suite he3 hd3 na nL nF
    have go : ∀ {hds' : List ExceptHandler} {l' : List ClT}, ClsOk X hds' l' → wCls X.K Wout D l' cls d σ' H' →
        wpAny (model X.prog X.w) X.A (handleBy (.ref a) X.env hds') (SP X pins D) X.xe { s' with heap := h3 } := by
      intro hds' l' hk
      induction hk with
      | nil =>
        intro w
        refine wpAny_handleBy_nil ?_
        obtain ⟨k1, k2, k3, oe, vs, T, oT, ts', he, hz, hd, h1, hr⟩ := id fl3
        unfold PySem.passOn
        refine wpAny_bind (wpAny_field he hd h1 ?_)
        rw [if_neg (show ¬ ((Value.ref T == Value.none) = true) from by simp)]
        have fin : wpAny (model X.prog X.w) X.A (setFlight (.ref a) X.env.frame) (fun _ s4 => wpAny (model X.prog X.w) X.A (throw (.ref a) : Sem Flow) (SP X pins D) X.xe s4) X.xe { s' with heap := h3 } := by
          rw [hf]
          refine HandSPX.setFlight_upZ fl3 fun h4 hh4 up4 => wpAny_throw (tk _ _ ?_)
          exact ⟨a, B, sI, pins, σ', H', cls, d, rfl, J, nb, (up.trans up3).trans up4, .inr (.inr (by rw [hs]; exact hh4)), na, os, ag, w⟩
        first
          | exact wpAny_bind (wpAny_pure (wpAny_bind fin))
          | exact wpAny_bind fin
      | @cons x c ts b₀ suite np pos' hds2 l2 hc hsu r ih =>
        intro w
        obtain ⟨b, hb1, hyes, hno⟩ := w
        refine wpAny_handleBy_cons (codeAny_handlers_test ?_) (by intro q; cases q)
        have LT : PySem.W.Looks (model X.prog X.w) h3 (typeOf (.ref a)) cls := fun A Q E s k q => wpAny_typeOf_ref (k _ _ he3) (by rw [hz3.1]; exact q)
        have LM := PySem.W.exm_one (M := model X.prog X.w) (J3.kIn) LT hb1
        have test : ∀ {Q : Value → Shared → Prop} {E : Value → Shared → Prop}, Q c { s' with heap := h3 } → wpAny (model X.prog X.w) (X.A.mark (some (.ref a))) (eval (.Name x np) X.env) Q E { s' with heap := h3 } := fun {Q E} q => by
          obtain ⟨hg, hdbg, hm | ⟨hm, hv, hnn⟩⟩ := hc
          · exact ld_glob (X := X.suite a ((a, oe3) :: (X.pn ++ pins))) S3 hg hm q hdbg
          · exact ld_blt (X := X.suite a ((a, oe3) :: (X.pn ++ pins))) S3 hg hm hv q hnn hdbg
        refine test (LM.here ?_)
        cases b with
        | true =>
          refine codeAny_handlers_suite ?_
          refine HandSPX.lands_againZ fl3 fun h4 fl4 up4 => ?_
          have J4 : Inv X pins σ' H' { s' with heap := h4 } := J.landed nb fl4.1 ((up.trans up3).trans up4) os ag
          obtain ⟨oe4, vs4, he4, hz4, hd4⟩ := fl4.there
          have S4 := J4.suite he4 hd4 na nL nF
          refine wpAny_mono ((hsu a oe4 cls d (X.pn ++ pins) hz4 ⟨_, hd4⟩).run [] _ _ H' _ S4 (hyes rfl a na)) (fun f s6 hsp => ?_) (fun _ _ z => False.elim z)
          cases f with
          | next =>
            obtain ⟨σ6, H6, S6, q6⟩ := hsp
            exact ⟨_, _, S6.unsuite ok, q6⟩
          | brk =>
            obtain ⟨σ6, H6, S6, q6⟩ := hsp
            exact ⟨_, _, S6.unsuite ok, q6⟩
          | cont =>
            obtain ⟨σ6, H6, S6, q6⟩ := hsp
            exact ⟨_, _, S6.unsuite ok, q6⟩
          | ret u =>
            obtain ⟨v6, σ6, H6, S6, r6, q6⟩ := hsp
            exact ⟨_, _, _, S6.unsuite ok, r6, q6⟩
        | false =>
          show wpAny _ X.A (handleBy (.ref a) X.env hds2) _ _ _
          exact ih (hno rfl)
      | @consN x n c ts i b₀ suite np pos' hds2 l2 hi hln hc hsu r ih =>
        intro w
        obtain ⟨b, hb1, hyes, hno⟩ := w
        refine wpAny_handleBy_cons (codeAny_handlers_test ?_) (by intro q; cases q)
        have LT : PySem.W.Looks (model X.prog X.w) h3 (typeOf (.ref a)) cls := fun A Q E s k q => wpAny_typeOf_ref (k _ _ he3) (by rw [hz3.1]; exact q)
        have LM := PySem.W.exm_one (M := model X.prog X.w) (J3.kIn) LT hb1
        have test : ∀ {Q : Value → Shared → Prop} {E : Value → Shared → Prop}, Q c { s' with heap := h3 } → wpAny (model X.prog X.w) (X.A.mark (some (.ref a))) (eval (.Name x np) X.env) Q E { s' with heap := h3 } := fun {Q E} q => by
          obtain ⟨hg, hdbg, hm | ⟨hm, hv, hnn⟩⟩ := hc
          · exact ld_glob (X := X.suite a ((a, oe3) :: (X.pn ++ pins))) S3 hg hm q hdbg
          · exact ld_blt (X := X.suite a ((a, oe3) :: (X.pn ++ pins))) S3 hg hm hv q hnn hdbg
        refine test (LM.here ?_)
        cases b with
        | true =>
          refine codeAny_handlers_suite_as ?_
          refine HandSPX.lands_againZ fl3 fun h4 fl4 up4 => ?_
          have J4 : Inv X pins σ' H' { s' with heap := h4 } := J.landed nb fl4.1 ((up.trans up3).trans up4) os ag
          obtain ⟨oe4, vs4, he4, hz4, hd4⟩ := fl4.there
          have S4 := J4.suite he4 hd4 na nL nF
          refine store_ok (X := X.suite a ((a, oe4) :: (X.pn ++ pins))) (v := .ref a) S4 hN hi (.inl hln) rfl (fun s5 S5 => ?_) (.inr hln)
          refine wpAny_mono ((hsu a oe4 cls d (X.pn ++ pins) hz4 ⟨_, hd4⟩).run [] s5 _ H' _ S5 (hyes rfl a na)) (fun f s6 hsp => ?_) (fun _ _ z => False.elim z)
          have end_ : ∀ {σ6 : L2.St} {H6 : Hp} {Q : Shared → Prop}, Inv (X.suite a ((a, oe4) :: (X.pn ++ pins))) [] σ6 H6 s6 → (∀ s7, Inv X pins (σ6.set i none) H6 s7 → Q s7) →
              wpAny (model X.prog X.w) X.A (do bindName X.env n .none; unbindBehindTheSuite X.env n pos') (fun _ s7 => Q s7) X.xe s6 := fun {σ6 H6 Q} S6 hq => gone_ok (S6.unsuite ok) hN hi hln hq
          cases f with
          | next =>
            obtain ⟨σ6, H6, S6, q6⟩ := hsp
            exact end_ S6 fun s7 J7 => ⟨_, _, J7, q6⟩
          | brk =>
            obtain ⟨σ6, H6, S6, q6⟩ := hsp
            exact end_ S6 fun s7 J7 => ⟨_, _, J7, q6⟩
          | cont =>
            obtain ⟨σ6, H6, S6, q6⟩ := hsp
            exact end_ S6 fun s7 J7 => ⟨_, _, J7, q6⟩
          | ret u =>
            obtain ⟨v6, σ6, H6, S6, r6, q6⟩ := hsp
            exact end_ S6 fun s7 J7 => ⟨_, _, _, J7, r6, q6⟩
        | false =>
          show wpAny _ X.A (handleBy (.ref a) X.env hds2) _ _ _
          exact ih (hno rfl)
    exact go hh w
  · cases f with
    | next =>
      obtain ⟨σ', H', J', q⟩ := hsp
      exact wpAny_execs_nil ⟨σ', H', J'.ofTry ok, q⟩
    | brk =>
      obtain ⟨σ', H', J', q⟩ := hsp
      exact ⟨σ', H', J'.ofTry ok, q⟩
    | cont =>
      obtain ⟨σ', H', J', q⟩ := hsp
      exact ⟨σ', H', J'.ofTry ok, q⟩
    | ret u =>
      obtain ⟨v, σ', H', J', r, q⟩ := hsp
      exact ⟨v, σ', H', J'.ofTry ok, r, q⟩
end
end L2
set_option maxHeartbeats 4000000
namespace DL
open PySem PySem.Spec PyProof.Rows L2
/-! ## raise, try -/
structure ErrK (K : PySem.W.Frag) (mg : Str → Option Value) (c : Str) : Prop where
  ex : ∃ qn fI, PySem.ErrX.ErrTxt K mg c qn (cA K c) fI
def zRaise (c : Str) (f : Env → Mu → R Va) : Env → Mu → RS := fun e m => (f e m).toS e fun v m => match v with
  | .d d => .exc c d e m
  | .l _ => .stuck
section
variable {X : Cx} {W : WX}
theorem ss_raise {cn : Str} {a : Expr} {f : Env → Mu → R Va} {p pos pos2 : Pos} {k : Nat} (hc : X.calm = true) (T : ErrK X.K X.mg cn) (hr : Room k X.A) (tk : L2N.Takes X W) (ha : SE X W a f) (hg : Gl X cn) (hdb : (cn == ("__debug__" : Str)) = false := by decide)
    (hs : starEach (a :: []) X.env = (false, eval a X.env) :: starEach [] X.env := by rfl) (hpl : (backTo pos (starEach [] X.env)).any (·.1) = false := by rfl) :
    SS X W (.Raise (some (.Call (.Name cn p) [a] [] pos)) none pos2) (zRaise cn f) := by
  obtain ⟨qn, fI, T⟩ := T.ex
  obtain ⟨t, h, r⟩ := ha
  refine ⟨_, ps_raiseErr hc T hr tk (pa_cons h pa_nil hs) hg hdb hs hpl, fun Hs H rh sg et m Dn s z => r Hs H rh sg et m _ s (Post.toS s z fun d m1 v Hs1 H1 rh1 x1 s1 r1 p1 => ?_)⟩
  show ∃ w, [v] = [w] ∧ _
  refine ⟨v, rfl, fun dd hd => ?_⟩
  cases d with
  | l n => exact p1.elim
  | d d =>
    have hds : Hs1 dd = none := s1.sc.same.free hd
    have hdr : dd ∉ rh1 := fun z => s1.sc.old dd z hd
    exact p1 dd v sg Hs1 _ rh1 (Ext.refl.aside hd) (s1.aside hds hdr) ⟨hd, hds, hdr, upd_same⟩ r1
end
def RS.gone (i : Nat) : RS → RS
  | .nx e m => .nx (e.set i none) m
  | .ret x e m => .ret x (e.set i none) m
  | .brk e m => .brk (e.set i none) m
  | .cnt e m => .cnt (e.set i none) m
  | _ => .stuck
section
variable {i : Nat} {e : Env} {m : Mu} {x : Va} {c : Str} {d : D}
@[simp] theorem gone_nx : (RS.nx e m).gone i = .nx (e.set i none) m := rfl
@[simp] theorem gone_ret : (RS.ret x e m).gone i = .ret x (e.set i none) m := rfl
@[simp] theorem gone_brk : (RS.brk e m).gone i = .brk (e.set i none) m := rfl
@[simp] theorem gone_cnt : (RS.cnt e m).gone i = .cnt (e.set i none) m := rfl
@[simp] theorem gone_exc : (RS.exc c d e m).gone i = .stuck := rfl
@[simp] theorem gone_stuck : RS.stuck.gone i = .stuck := rfl
end
open Classical in
/-- what does not hang on the places -/
noncomputable def anyA (f : Addr → Addr → RS) : RS := if h : ∃ r, ∀ a dd, f a dd = r then h.choose else .stuck
theorem anyA_eq {f : Addr → Addr → RS} {r : RS} (h : ∀ a dd, f a dd = r) : anyA f = r := by
  unfold anyA
  have hx : ∃ r, ∀ a dd, f a dd = r := ⟨r, h⟩
  rw [dif_pos hx]
  exact (hx.choose_spec 0 0).symm.trans (h 0 0)
@[simp] theorem anyA_const (r : RS) : anyA (fun _ _ => r) = r := anyA_eq fun _ _ => rfl
theorem anyA_at {f : Addr → Addr → RS} (a dd : Addr) : anyA f = f a dd ∨ anyA f = .stuck := by
  unfold anyA
  by_cases hx : ∃ r, ∀ a dd, f a dd = r
  · rw [dif_pos hx]
    exact .inl (hx.choose_spec a dd).symm
  · rw [dif_neg hx]
    exact .inr rfl
structure HS where
  c : Str
  i : Option Nat
  g : Str → Addr → Addr → Env → Mu → RS
@[simp] def excSub (c h : Str) : Bool := c == h || h == "PageError"
@[simp] noncomputable def hRun (h : HS) (c : Str) (d : D) (e : Env) (m : Mu) : RS := match h.i with
  | none => anyA fun a dd => match h.g c a dd e m with
    | .exc _ _ _ _ => .stuck
    | r => r
  | some i => anyA fun a dd => (h.g c a dd (e.set i (some (.d (.exn a dd c d)))) m).gone i
@[simp] noncomputable def zHs : List HS → Str → D → Env → Mu → RS
  | [], c, d, e, m => .exc c d e m
  | h :: r, c, d, e, m => if excSub c h.c = true then hRun h c d e m else zHs r c d e m
@[simp] noncomputable def zTry (cs : List Str) (gb : Env → Mu → RS) (hs : List HS) : Env → Mu → RS := fun e m => match gb e m with
  | .exc c d e m => if cs.contains c = true then zHs hs c d e m else .stuck
  | r => r
def cB (K : PySem.W.Frag) (W : WX) (f : Env → Mu → RS) : TS := fun Dn sg H => ∃ Hs rh et m, SR K Hs H rh sg et m ∧ PostS K W Hs H rh Dn (f et m)
theorem SB.canon {X : Cx} {W : WX} {b : List Stmt} {f : Env → Mu → RS} (h : SB X W b f) : PSs X b (cB X.K W f) := by
  obtain ⟨t, p, r⟩ := h
  exact ⟨fun pins s sg H Q I ⟨Hs, rh, et, m, h1, h2⟩ => p.run pins s sg H Q I (r Hs H rh sg et m Q h1 h2)⟩
/-- a suite's wish -/
def tsOf (K : PySem.W.Frag) (cs : List Str) (h : HS) : Addr → Value → Option Addr → TS := fun a cls d D sg H => ∃ c dd, cs.contains c = true ∧ cls = .ref (cA K c) ∧ d = some dd ∧ cB K WF (h.g c a dd) D sg H
inductive HsOk (X : Cx) (cs : List Str) : List ExceptHandler → List HS → Prop
  | nil : HsOk X cs [] []
  | cons {x : Str} {n : Option Str} {h : HS} {b₀ : Stmt} {suite : List Stmt} {np pos' : Pos} {hds : List ExceptHandler} {l : List HS} (hc : Names X x (.ref (cA X.K h.c)))
      (hn : (n = none ∧ h.i = none) ∨ ∃ y i, n = some y ∧ h.i = some i ∧ X.N[i]? = some y ∧ X.env.kindOf y = some .local)
      (hx : ∀ c, cs.contains c = true → PySem.W.exmOne X.K (.ref (cA X.K c)) (.ref (cA X.K h.c)) = some (excSub c h.c))
      (hsu : ∀ (c : Str), cs.contains c = true → ∀ (a dd : Addr) (oe : Obj) (pn : List (Addr × Obj)), L2N.Zn (.ref (cA X.K c)) (some dd) oe → (∃ vs, oe.data = .fields vs) → SB (X.suite a ((a, oe) :: pn)) WF (b₀ :: suite) (h.g c a dd)) (r : HsOk X cs hds l) :
      HsOk X cs (.ExceptHandler (some (.Name x np)) n (b₀ :: suite) pos' :: hds) (h :: l)
section
variable {X : Cx} {W : WX} {cs : List Str}
def clT (X : Cx) (cs : List Str) (l : List HS) : List ClT := l.map fun h => (.ref (cA X.K h.c), h.i, tsOf X.K cs h)
theorem HsOk.cls : ∀ {hds : List ExceptHandler} {l : List HS}, HsOk X cs hds l → ClsOk X hds (clT X cs l)
  | _, _, .nil => .nil
  | _, _, .cons (n := n) (h := h) (b₀ := b₀) (suite := suite) (l := l) hc hn hx hsu r => by
    have ih := r.cls
    have sp : ∀ (a : Addr) (oe : Obj) (cls : Value) (d : Option Addr) (pn : List (Addr × Obj)), L2N.Zn cls d oe → (∃ vs, oe.data = .fields vs) → PSs (X.suite a ((a, oe) :: pn)) (b₀ :: suite) (tsOf X.K cs h a cls d) := by
      intro a oe cls d pn hz hf
      refine ⟨fun pins s sg H D I q => ?_⟩
      obtain ⟨c, dd, h1, rfl, rfl, q⟩ := q
      exact (hsu c h1 a dd oe pn hz hf).canon.run pins s sg H D I q
    rcases hn with ⟨rfl, e⟩ | ⟨y, i, rfl, e, h1, h2⟩
    · show ClsOk X _ ((.ref (cA X.K h.c), h.i, tsOf X.K cs h) :: clT X cs l)
      rw [e]
      exact .cons hc sp ih
    · show ClsOk X _ ((.ref (cA X.K h.c), h.i, tsOf X.K cs h) :: clT X cs l)
      rw [e]
      exact .consN h1 h2 hc sp ih
theorem post_gone {K : PySem.W.Frag} {i : Nat} {Hs H : Hp} {rh : List Addr} {Dn : Ends} : ∀ {r : RS}, PostS K W Hs H rh Dn (r.gone i) → PostS K WF Hs H rh (gone i Dn) r
  | .nx _ _, z => fun sg5 Hs5 H5 rh5 x5 s5 => z (sg5.set i none) Hs5 H5 rh5 x5 s5.wipe
  | .brk _ _, z => fun sg5 Hs5 H5 rh5 x5 s5 => z (sg5.set i none) Hs5 H5 rh5 x5 s5.wipe
  | .cnt _ _, z => fun sg5 Hs5 H5 rh5 x5 s5 => z (sg5.set i none) Hs5 H5 rh5 x5 s5.wipe
  | .ret _ _ _, z => fun v sg5 Hs5 H5 rh5 x5 s5 r => z v (sg5.set i none) Hs5 H5 rh5 x5 s5.wipe r
  | .exc _ _ _ _, z => z.elim
  | .stuck, z => z.elim
theorem wcls_of {Hs H Hs1 H1 : Hp} {rh rh1 : List Addr} {Dn : Ends} {c : Str} {d : D} {e : Env} {m : Mu} (hcs : cs.contains c = true) :
    ∀ {hds : List ExceptHandler} {l : List HS}, HsOk X cs hds l → PostS X.K W Hs H rh Dn (zHs l c d e m) → ∀ dx v sg', Ext Hs H rh Hs1 H1 rh1 → SR X.K Hs1 H1 rh1 sg' e m → XdAt H Hs1 H1 rh1 dx v → Rep X.K Hs1 d v → wCls X.K W Dn (clT X cs l) (.ref (cA X.K c)) (some dx) sg' H1
  | _, _, .nil, z, dx, v, sg', x, s, q, r => z dx v sg' Hs1 H1 rh1 x s q r
  | _, _, .cons (n := n) (h := h) (l := l) hc hn hx hsu rest, z, dx, v, sg', x, s, q, r => by
    have e1 := hx c hcs
    simp only [zHs] at z
    have no : ∀ b, excSub c h.c = b → b = false → PostS X.K W Hs H rh Dn (zHs l c d e m) := fun b h1 h2 => by
      rw [h1, h2] at z
      exact z
    have yes : ∀ b, excSub c h.c = b → b = true → PostS X.K W Hs H rh Dn (hRun h c d e m) := fun b h1 h2 => by
      rw [h1, h2] at z
      exact z
    rcases hn with ⟨_, en⟩ | ⟨y, i, _, en, _, _⟩
    · show wCls X.K W Dn ((.ref (cA X.K h.c), h.i, tsOf X.K cs h) :: clT X cs l) _ _ _ _
      rw [en]
      refine ⟨excSub c h.c, e1, fun hb a ha => ⟨c, dx, hcs, rfl, rfl, Hs1, rh1, e, m, s, ?_⟩, fun hb => wcls_of hcs rest (no _ rfl hb) dx v sg' x s q r⟩
      have z2 := PostS.ext x (yes _ rfl hb)
      unfold hRun at z2
      rw [en] at z2
      rcases anyA_at (f := fun a dd => match h.g c a dd e m with
        | .exc _ _ _ _ => .stuck
        | r => r) a dx with w | w
      · dsimp only at z2
        rw [w] at z2
        cases qg : h.g c a dx e m with
        | exc _ _ _ _ => rw [qg] at z2; exact z2.elim
        | nx _ _ => rw [qg] at z2; exact z2
        | ret _ _ _ => rw [qg] at z2; exact z2
        | brk _ _ => rw [qg] at z2; exact z2
        | cnt _ _ => rw [qg] at z2; exact z2
        | stuck => rw [qg] at z2; exact z2
      · dsimp only at z2
        rw [w] at z2
        exact z2.elim
    · show wCls X.K W Dn ((.ref (cA X.K h.c), h.i, tsOf X.K cs h) :: clT X cs l) _ _ _ _
      rw [en]
      refine ⟨excSub c h.c, e1, fun hb a ha => ?_, fun hb => wcls_of hcs rest (no _ rfl hb) dx v sg' x s q r⟩
      have z2 := yes _ rfl hb
      unfold hRun at z2
      rw [en] at z2
      dsimp only at z2
      -- the error's dict is laid by
      have sm : Same Hs1 (upd Hs1 dx (.xd [(("at" : Str), v)])) := fun b u e => by rw [upd_ne (ne_of_none e q.fro)]; exact e
      have s2 : SC X.K (upd Hs1 dx (.xd [(("at" : Str), v)])) H1 rh1 m := by
        refine ⟨fun b u e => ?_, s.sc.mlen, fun n c e => ?_, s.sc.nd, s.sc.old⟩
        · by_cases hb : b = dx
          · subst hb
            rw [upd_same] at e
            cases e
            exact q.at_
          · rw [upd_ne hb] at e
            exact s.sc.same b u e
        · obtain ⟨a, o, e1, e2, e3, e4⟩ := s.sc.cell n c e
          exact ⟨a, o, e1, by rw [upd_ne (fun z => q.cel (by rw [← z]; exact List.mem_of_getElem? e1))]; exact e2, e3, e4.mono sm (List.prefix_refl _)⟩
      have s3 : SR X.K (upd Hs1 dx (.xd [(("at" : Str), v)])) H1 rh1 sg' e m := ⟨s2, s.len, fun j d' e' => by
        obtain ⟨v', q1, q2⟩ := s.val j d' e'
        exact ⟨v', q1, q2.mono sm (List.prefix_refl _)⟩⟩
      have rx : RepA X.K (upd Hs1 dx (.xd [(("at" : Str), v)])) rh1 (.d (.exn a dx c d)) (.ref a) := by
        show Rep X.K _ _ _
        simp only [Rep]
        exact ⟨trivial, v, upd_same, r.mono sm⟩
      have x' : Ext Hs H rh (upd Hs1 dx (.xd [(("at" : Str), v)])) H1 rh1 := ⟨x.sub.trans sm, x.pre, x.keep, x.there, x.new, fun b hb => by
        by_cases hbx : b = dx
        · exact .inr (.inl (by rw [hbx]; exact q.new))
        · rw [upd_ne hbx] at hb; exact x.froz b hb⟩
      refine ⟨c, dx, hcs, rfl, rfl, _, rh1, e.set i (some (.d (.exn a dx c d))), m, s3.set rx, ?_⟩
      rcases anyA_at (f := fun a dd => (h.g c a dd (e.set i (some (.d (.exn a dd c d)))) m).gone i) a dx with w | w
      · rw [w] at z2
        exact post_gone (PostS.ext x' z2)
      · rw [w] at z2
        exact z2.elim
end
section
variable {X : Cx} {W : WX} {cs : List Str}
theorem ss_try {body : List Stmt} {h₀ : ExceptHandler} {hds : List ExceptHandler} {pos : Pos} {gb : Env → Mu → RS} {l : List HS} (hN : X.N.Nodup) (hs : X.stack = X.env :: X.outer) (hf : X.env.frame = some X.env.locals) (tk : L2N.Takes X W)
    (hb : ∀ (W' : WX) (pn : List (Addr × Obj)) (xe : Value → Shared → Prop), L2N.Takes (X.tr pn xe) W' → PassesOwn (model X.prog X.w) X.A X.env xe → SB (X.tr pn xe) W' body gb)
    (hh : HsOk X cs (h₀ :: hds) l) : SS X W (.Try body (h₀ :: hds) [] [] pos) (zTry cs gb l) := by
  refine ⟨_, ps_try_clauses (tb := fun W' => cB X.K W' gb) hN hs hf tk (fun W' pn xe t p => (hb W' pn xe t p).canon) hh.cls, fun Hs H rh sg et m Dn s z => ⟨Hs, rh, et, m, s, ?_⟩⟩
  unfold zTry at z
  cases q : gb et m with
  | exc c d e1 m1 =>
    rw [q] at z
    dsimp only at z
    by_cases hc : cs.contains c = true
    · rw [if_pos hc] at z
      exact fun dx v sg' Hs' H' rh' x s' hd hv => wcls_of hc hh z dx v sg' x s' hd hv
    · rw [if_neg hc] at z
      exact z.elim
  | nx _ _ => rw [q] at z; exact z
  | ret _ _ _ => rw [q] at z; exact z
  | brk _ _ => rw [q] at z; exact z
  | cnt _ _ => rw [q] at z; exact z
  | stuck => rw [q] at z; exact z
/-! e.at -/
@[simp] def xAt (a dd : Addr) (c : Str) (f : Env → Mu → R Va) : Env → Mu → R Va := fun e m => (f e m).bind fun v m => match v with
  | .d (.exn a' dd' c' x) => if a' = a ∧ dd' = dd ∧ c' = c then .ok (.d x) m else .stuck
  | _ => .stuck
theorem se_at {c : Str} {a dd : Addr} {oe : Obj} {pn : List (Addr × Obj)} {e : Expr} {f : Env → Mu → R Va} {pos : Pos} (T : ErrK X.K X.mg c) (hz : L2N.Zn (.ref (cA X.K c)) (some dd) oe) (hf : ∃ vs, oe.data = .fields vs) (he : SE (X.suite a ((a, oe) :: pn)) W e f)
    (hb : attributeBase e "at" X.env (eval e X.env) = eval e X.env := by rfl) : SE (X.suite a ((a, oe) :: pn)) W (.Attribute e "at" pos) (xAt a dd c f) := by
  obtain ⟨qn, fI, T⟩ := T.ex
  obtain ⟨t, h, r⟩ := he
  refine ⟨_, pe_atErr T hz.zc hf h hb, fun Hs H rh sg et m Q s z => r Hs H rh sg et m _ s (Post.step z fun d m1 v Hs1 H1 rh1 x1 s1 r1 p1 => ?_)⟩
  cases d with
  | l n => exact p1.elim
  | d d =>
    cases d with
    | exn a' dd' c' x =>
      dsimp only at p1
      by_cases hc : a' = a ∧ dd' = dd ∧ c' = c
      · rw [if_pos hc] at p1
        obtain ⟨rfl, rfl, rfl⟩ := hc
        have r1' : Rep X.K Hs1 (.exn a' dd' c' x) v := r1
        simp only [Rep] at r1'
        obtain ⟨rfl, u, e1, e2⟩ := r1'
        exact ⟨rfl, rfl, dd', u, rfl, s1.sc.same _ _ e1, p1 u Hs1 H1 rh1 .refl s1 e2⟩
      · rw [if_neg hc] at p1
        exact p1.elim
    | _ => exact p1.elim
end
end DL
set_option maxHeartbeats 4000000
/-! isinstance -/
namespace PySem.W
open PySem PySem.Spec PySem.Calls PyProof.Rows
section
variable {prog : Program} {w : World} {A : Around} {E : Value → Shared → Prop} {s : Shared} {K : Frag} {x D : Addr} {ox : Obj}
theorem findObj_dataD {C : Addr} {name : Str} {od : Option Obj} {a g : Value} (hc : (clsIn K C).isSome = true) (ha : findIn K (.ref C) name = some (some a)) (hg : specialIn K a "__get__" = some (some g)) (ht : takesIn K a = some true) : findObj K C od name = some (.bind g a) := by
  obtain ⟨cd, hc⟩ := Option.isSome_iff_exists.mp hc
  unfold findObj
  rw [hc, Option.bind_some, ha, Option.bind_some]
  simp [hg, ht]
theorem kin_classD {od : Option Obj} {Q : Option Value → Shared → Prop} (C : L2.ExcC K D) (X : K.In s.heap) (I : InstAt s.heap x ox D od) (h : Q (some (.ref D)) { s with toks := s.toks + 1 }) : wpAny (model prog w) A (getAttr? (.ref x) "__class__") Q E s := by
  have hf : findObj K D od "__class__" = some (.bind (.builtin "getset_descriptor.__get__") (.builtin "object.__class__")) := findObj_dataD (by obtain ⟨cd, hc, _⟩ := any_some C.hd; rw [hc]; rfl) C.ha C.hn C.ht
  obtain ⟨hp, g, d, t, os⟩ := s
  have L0 := I.type (M := model prog w)
  have L1 := looks_findIn (M := model prog w) X C.hg
  have L2 := looks_findIn (M := model prog w) X C.hk
  have L3 := looks_find (M := model prog w) X I hf
  have sub : Looks (model prog w) hp (isInstance (.ref x) (.type "BaseException")) true := L0.andThen (looks_subIn X C.hs)
  have hx0 : (false && onTheHeap (Value.builtin "BaseException.__getattribute__")) = false := rfl
  have hx2 : (Value.builtin "BaseException.__getattribute__" == Value.builtin "object.__getattribute__") = false := by decide +kernel
  have hx1 : (onTheHeap (Value.ref D) && Value.builtin "BaseException.__getattribute__" == Value.builtin "object.__getattribute__") = false := by rw [hx2]; rfl
  unfold getAttr? getAttrBy? getAttrBy
  refine wpAny_bind (wpAny_mkText (wpAny_bind (wpAny_attempt (wpAny_holding (wpAny_bind (L0.at (wpAny_bind (L1.at ?_))))))))
  show wpAny _ _ (if (onTheHeap (Value.ref D) && Value.builtin "BaseException.__getattribute__" == Value.builtin "object.__getattribute__") = true then _ else _) _ _ _
  rw [hx1, if_neg Bool.false_ne_true]
  unfold getAttrByItsOwn hookBefore
  refine wpAny_bind ?_
  rw [if_pos (show onTheHeap (Value.ref D) = true from rfl)]
  refine L2.at ?_
  refine wpAny_bind (wpAny_attempt (wpAny_holding ?_))
  unfold callGetattribute
  rw [hx0, if_neg Bool.false_ne_true]
  unfold boundAndCalled
  rw [PySem.F.excAttr_ValueError.ga.bind (.ref x)]
  refine wpAny_bind (wpAny_pure ?_)
  show wpAny _ _ (call (.builtin "BaseException.__getattribute__") [.ref x, .str "__class__" t]) _ _ _
  refine wpAny_call (codeAny_call_builtin PySem.F.excAttr_ValueError.ga.plain PySem.F.entry_bexc_ga ?_)
  refine @check_slot (model prog w) _ _ ⟨hp, g, d, t + 1, os⟩ "BaseException.__getattribute__" "BaseException" "__getattribute__" (.ref x) [.str "__class__" t] [] _ (by decide +kernel) (by decide +kernel) sub (PySem.F.args_bexc_ga (.ref x) (.str "__class__" t)) ?_
  unfold Builtin.«object.__getattribute__»
  refine wpAny_bind (wpAny_of_eq (a := ((Value.ref x : Value), [Value.str "__class__" t])) (by first | rfl | (simp only [slotArgs]; rfl)) ?_)
  refine wpAny_bind (wpAny_pure (wpAny_bind (L0.at (wpAny_bind (L3.at ?_)))))
  show wpAny _ _ (holding [Value.builtin "object.__class__"] (call (.builtin "getset_descriptor.__get__") [.builtin "object.__class__", .ref x, .ref D]) >>= ret) _ _ _
  refine wpAny_bind (wpAny_holding (wpAny_call (class_get (s := ⟨hp, g, d, t + 1, os⟩) (ox := ox) (od := od) X I C.hm ?_)))
  refine wpAny_pure ?_
  show wpAny _ _ (handedOut (.ref D)) _ _ _
  rw [handedOut_of (v := .ref D) rfl]
  first
    | exact wpAny_pure (wpAny_pure h)
    | exact wpAny_pure h
    | exact wpAny_pure (wpAny_bind (wpAny_pure (wpAny_pure h)))
theorem kitx_excD {od : Heap → Option Obj} (C : L2.ExcC K D) : KitX K (.ref x) (.ref D) (fun h => InstAt h x ox D (od h)) where
  ty := fun _ _ _ I => I.type
  it := fun _ _ X _ => by
    obtain ⟨cdD, hcD, _⟩ := any_some C.hd
    unfold clsIn at hcD
    split at hcD
    · rename_i c' d' cd' sl' ho
      intro A' Q' E' s' k q
      unfold isType loadHead
      exact wpAny_bind (wpAny_loadPart (k _ _ (X _ _ ho)) (wpAny_pure q))
    · cases hcD
  ne := fun h tp dd its n sl X htp => by
    obtain ⟨cdD, hcD, _⟩ := any_some C.hd
    refine Bool.eq_false_iff.mpr fun q => ?_
    have e : D = tp := Value.ref.inj (beq_iff_eq.mp q)
    subst e
    unfold clsIn at hcD
    split at hcD
    · rename_i c' d' cd' sl' ho
      have z := (X _ _ ho).symm.trans htp
      cases z
    · cases hcD
  ca := fun X I k => kin_classD C X I k
end
end PySem.W
namespace DL
open PySem PySem.Spec PyProof.Rows L2
abbrev bTys : List String := ["NoneType", "bool", "int", "str", "tuple", "list", "dict"]
inductive Kd where
  | b (n : String) | o (c : Str)
@[simp] def kdA (m : Mu) : Va → Option Kd
  | .d .non => some (.b "NoneType")
  | .d (.bl _) => some (.b "bool")
  | .d (.int _) => some (.b "int")
  | .d (.str _) => some (.b "str")
  | .d (.tup _) => some (.b "tuple")
  | .d (.lst _) => some (.b "list")
  | .d (.dct _) => some (.b "dict")
  | .d (.obj c _) => some (.o c)
  | .l n => (match m[n]? with
    | some (some (.lst _)) => some (.b "list")
    | some (some (.dct _)) => some (.b "dict")
    | some (some (.obj c _)) => some (.o c)
    | _ => none)
  | _ => none
/-- what the written part says of own classes -/
structure IsiK (K : PySem.W.Frag) (cs : List Str) : Prop where
  ty : ∀ T ∈ cs, ∀ a ∈ bTys, PySem.W.kitOne K (.type a) (.ref (cA K T)) = some false
  ob : ∀ c ∈ cs, Cls K (cA K c) ∧ PySem.W.findIn K (.ref (cA K c)) "__class__" = some (some (.builtin "object.__class__")) ∧ PySem.W.mroIn K (cA K c) (.type "object") = some true
  oc : ∀ c ∈ cs, ∀ T ∈ cs, PySem.W.kitOne K (.ref (cA K c)) (.ref (cA K T)) = some (c == T)
  ot : ∀ c ∈ cs, ∀ T ∈ bTys, PySem.W.kitOne K (.ref (cA K c)) (.type T) = some false
  dn : PySem.W.specialIn K (.builtin "object.__class__") "__get__" = some (some (.builtin "getset_descriptor.__get__"))
  dt : PySem.W.takesIn K (.builtin "object.__class__") = some true
theorem IsiK.nil {K : PySem.W.Frag} (dn : PySem.W.specialIn K (.builtin "object.__class__") "__get__" = some (some (.builtin "getset_descriptor.__get__"))) (dt : PySem.W.takesIn K (.builtin "object.__class__") = some true) : IsiK K [] :=
  ⟨fun _ h => (by cases h), fun _ h => (by cases h), fun _ h => (by cases h), fun _ h => (by cases h), dn, dt⟩
@[simp] def isTy (cs : List Str) : Kd → D → Option Bool
  | .b n, .ty T => if bTys.contains T = true then some (n == T || (n == "bool" && T == "int")) else none
  | .b _, .cls T => if cs.contains T = true then some false else none
  | .o c, .ty T => if bTys.contains T = true ∧ cs.contains c = true then some false else none
  | .o c, .cls T => if cs.contains c = true ∧ cs.contains T = true then some (c == T) else none
  | _, _ => none
/-- the class as a value -/
def kdV (K : PySem.W.Frag) : Kd → Value
  | .b n => .type n
  | .o c => .ref (cA K c)
def clV (K : PySem.W.Frag) : D → Value
  | .ty n => .type n
  | .cls c => .ref (cA K c)
  | _ => .none
section
variable {K : PySem.W.Frag} {cs : List Str} {Hs H : Hp} {rh : List Addr} {m : Mu}
theorem kit_bb : ∀ a ∈ bTys, ∀ b ∈ bTys, kitB a b = some (a == b || (a == "bool" && b == "int")) := by decide +kernel
theorem isTy_kit (I : IsiK K cs) {k : Kd} {t : D} {b : Bool} (hk : ∀ n, k = .b n → n ∈ bTys) (e : isTy cs k t = some b) : PySem.W.kitOne K (kdV K k) (clV K t) = some b := by
  cases k with
  | b n =>
    cases t with
    | ty T =>
      unfold isTy at e
      dsimp only at e
      by_cases h : bTys.contains T = true
      · rw [if_pos h] at e
        cases e
        exact kit_ty (kit_bb n (hk n rfl) T (by simpa using h))
      · rw [if_neg h] at e; cases e
    | cls T =>
      unfold isTy at e
      dsimp only at e
      by_cases h : cs.contains T = true
      · rw [if_pos h] at e
        cases e
        exact I.ty T (by simpa using h) n (hk n rfl)
      · rw [if_neg h] at e; cases e
    | _ => cases e
  | o c =>
    cases t with
    | ty T =>
      unfold isTy at e
      dsimp only at e
      by_cases h : bTys.contains T = true ∧ cs.contains c = true
      · rw [if_pos h] at e
        cases e
        exact I.ot c (by simpa using h.2) T (by simpa using h.1)
      · rw [if_neg h] at e; cases e
    | cls T =>
      unfold isTy at e
      dsimp only at e
      by_cases h : cs.contains c = true ∧ cs.contains T = true
      · rw [if_pos h] at e
        cases e
        exact I.oc c (by simpa using h.1) T (by simpa using h.2)
      · rw [if_neg h] at e; cases e
    | _ => cases e
theorem isTy_cls {k : Kd} {t : D} {b : Bool} (e : isTy cs k t = some b) {v : V} (r : Rep K Hs t v) : ClsV v (clV K t) := by
  cases t with
  | ty T =>
    have r' : v = .ty T := by simpa only [Rep] using r
    subst r'
    exact .ty T
  | cls T =>
    have r' : v = .ref (cA K T) := by simpa only [Rep] using r
    subst r'
    exact .own _
  | _ => cases k <;> cases e
theorem kd_b {x : Va} {k : Kd} (e : kdA m x = some k) : ∀ n, k = .b n → n ∈ bTys := by
  intro n hn
  subst hn
  cases x with
  | d x => cases x <;> simp_all
  | l i =>
    simp only [kdA] at e
    split at e <;> simp_all
theorem kd_ty (I : IsiK K cs) (s : SC K Hs H rh m) {x : Va} {k : Kd} {v : V} (hk : ∀ c, k = .o c → cs.contains c = true) (r : RepA K Hs rh x v) (e : kdA m x = some k) : TyX K H v (kdV K k) := by
  have ins : ∀ {a dx : Addr} {c : Str} {fs : List (Str × V)}, cs.contains c = true → H a = some (.ins (cA K c) dx fs) → TyX K H (.ref a) (.ref (cA K c)) := fun {a dx c fs} hc h => by
    obtain ⟨h1, h2, h3⟩ := I.ob c (by simpa using hc)
    exact .base (.ins h h1 h2 I.dn I.dt h3)
  cases x with
  | d x =>
    cases x with
    | non => cases e; rw [va_non r]; exact .base .non
    | bl b => cases e; rw [va_bl r]; exact .base (.bl b)
    | int b => cases e; rw [va_int r]; exact .base (.int b)
    | str b => cases e; rw [va_str r]; exact .base (.str b)
    | tup ds =>
      cases e
      have r' : Rep K Hs (.tup ds) v := r
      simp only [Rep] at r'
      obtain ⟨a, vs, rfl, e2, e3⟩ := r'
      rcases e2 with (h | ⟨o, h⟩) | ⟨o, its, n, hk, hc, _⟩
      · exact .base (.tup (s.same _ _ h))
      · exact .fTuple (s.same _ _ h)
      · exact .kTuple hk hc
    | lst ds =>
      cases e
      have r' : Rep K Hs (.lst ds) v := r
      simp only [Rep] at r'
      obtain ⟨a, vs, rfl, e2, e3⟩ := r'
      exact .base (.lst (s.same _ _ e2))
    | dct ds =>
      cases e
      have r' : Rep K Hs (.dct ds) v := r
      simp only [Rep] at r'
      obtain ⟨a, o, ws, rfl, e2, ⟨kvs, rfl, _⟩, e4⟩ := r'
      exact .base (.dK (s.same _ _ e2))
    | obj c fs =>
      cases e
      have r' : Rep K Hs (.obj c fs) v := r
      simp only [Rep] at r'
      obtain ⟨a, dx, vs, rfl, e2, e3⟩ := r'
      exact ins (hk c rfl) (s.same _ _ e2)
    | _ => cases e
  | l i =>
    obtain ⟨a, ha, rfl⟩ := r
    simp only [kdA] at e
    split at e
    · rename_i ds q
      cases e
      obtain ⟨a', o, e1, e2, e3, vs, rfl, e4⟩ := s.cell i _ q
      rw [ha] at e1; cases e1
      exact .base (.lst e3)
    · rename_i ds q
      cases e
      obtain ⟨a', o, e1, e2, e3, ws, ⟨kvs, rfl, _⟩, e4⟩ := s.cell i _ q
      rw [ha] at e1; cases e1
      exact .base (.dK e3)
    · rename_i c fs q
      cases e
      obtain ⟨a', o, e1, e2, e3, dx, vs, rfl, e4⟩ := s.cell i _ q
      rw [ha] at e1; cases e1
      exact ins (hk c rfl) e3
    · cases e
end
@[simp] def isAny (cs : List Str) (k : Kd) : List D → Option Bool
  | [] => some false
  | t :: r => match isTy cs k t with
    | some true => some true
    | some false => isAny cs k r
    | none => none
@[simp] def okK (cs : List Str) : Kd → Bool
  | .b _ => true
  | .o c => cs.contains c
@[simp] def isAll (cs : List Str) (k : Kd) : List D → Bool
  | [] => true
  | t :: r => (isTy cs k t).isSome && isAll cs k r
@[simp] def oIs (cs : List Str) : List Va → Mu → R Va := fun as m => match as with
  | [x, .d (.tup ts)] => (match kdA m x with
    | some k => if okK cs k = true ∧ isAll cs k ts = true then (match isAny cs k ts with
      | some b => .ok (.d (.bl b)) m
      | none => .stuck) else .stuck
    | none => .stuck)
  | [x, .d t] => (match kdA m x with
    | some k => if okK cs k = true then (match isTy cs k t with
      | some b => .ok (.d (.bl b)) m
      | none => .stuck) else .stuck
    | none => .stuck)
  | _ => .stuck
/-- the tuple as it stands -/
def rIsiS (K : PySem.W.Frag) : List V → Hp → VK → Prop := fun xs H Q => ∃ (x : V) (tp : Addr) (cs : List V) (t : Value) (us : List Value) (b : Bool), xs = [x, .ref tp] ∧ SqT K H tp cs ∧ Paired ClsV cs us ∧ TyX K H x t ∧ PySem.W.kitAny K t us = some b ∧ Q (.bl b) H
theorem call_isiS {X : Cx} : CallR X (.builtin "isinstance") (rIsiS X.K) := by
  intro pins s σ H xs us Q I r h
  obtain ⟨x, tp, cs, t, ws, b, rfl, hT, k, ty, e, q⟩ := h
  obtain ⟨u1, u2, rfl, r1, r2⟩ := vals2 r
  cases (show u2 = Value.ref tp from r2)
  obtain ⟨P, Z, p, hx⟩ := kit_of I r1 ty
  obtain ⟨its, rv, ⟨o, h1, h2, n, h3⟩, _⟩ := I.tuple hT
  have e3 := ClsV.all k rv
  subst e3
  obtain ⟨oc, od, dt, sl⟩ := o
  simp only at h2 h3
  subst h2 h3
  exact PySem.W.kia_tup Z I.kIn p h1 e hx fun tk => ⟨.bl b, H, I.tok tk, rfl, q⟩
theorem isAny_kit {K : PySem.W.Frag} {cs : List Str} {Hs : Hp} (I : IsiK K cs) {k : Kd} (hk : ∀ n, k = .b n → n ∈ bTys) : ∀ {ts : List D} {vs : List V} {b : Bool}, isAll cs k ts = true → isAny cs k ts = some b → Reps K Hs ts vs → ∃ us, Paired ClsV vs us ∧ PySem.W.kitAny K (kdV K k) us = some b
  | [], vs, b, _, e, r => by
    cases e
    rw [reps_nil] at r
    subst r
    exact ⟨[], .nil, kitAny_nil⟩
  | t :: ts, vs, b, ha, e, r => by
    simp only [Reps] at r
    obtain ⟨v, vs', rfl, r1, r2⟩ := r
    simp only [isAll, Bool.and_eq_true] at ha
    obtain ⟨c, hc⟩ := Option.isSome_iff_exists.mp ha.1
    have h1 := isTy_kit I hk hc
    have h2 := isTy_cls hc r1
    simp only [isAny, hc] at e
    have rest : ∀ {ts : List D} {vs : List V}, isAll cs k ts = true → Reps K Hs ts vs → ∃ us, Paired ClsV vs us := by
      intro ts
      induction ts with
      | nil => intro vs _ r; rw [reps_nil] at r; subst r; exact ⟨[], .nil⟩
      | cons t ts ih =>
        intro vs ha r
        simp only [Reps] at r
        obtain ⟨v, vs', rfl, r1, r2⟩ := r
        simp only [isAll, Bool.and_eq_true] at ha
        obtain ⟨c, hc⟩ := Option.isSome_iff_exists.mp ha.1
        obtain ⟨us, hu⟩ := ih ha.2 r2
        exact ⟨_ :: us, .cons (isTy_cls hc r1) hu⟩
    cases c with
    | true =>
      cases e
      obtain ⟨us, hu⟩ := rest ha.2 r2
      exact ⟨_ :: us, .cons h2 hu, kitAny_cons h1 (fun z => nomatch z) fun _ => rfl⟩
    | false =>
      obtain ⟨us, hu, q⟩ := isAny_kit I hk ha.2 e r2
      exact ⟨_ :: us, .cons h2 hu, kitAny_cons h1 (fun _ => q) fun z => nomatch z⟩
theorem cs_is {X : Cx} {cs : List Str} (I : IsiK X.K cs) : CalS X (.builtin "isinstance") (oIs cs) := by
  refine ⟨_, CallR.or call_isi call_isiS, fun W Hs H rh sg et m as vs Q s r p => ?_⟩
  unfold oIs at p
  split at p
  · rename_i x ts
    obtain ⟨v, u, rfl, r1, r2⟩ := as2 r
    cases q : kdA m x with
    | none => rw [q] at p; exact p.elim
    | some k =>
      rw [q] at p
      dsimp only at p
      by_cases h : okK cs k = true ∧ isAll cs k ts = true
      · rw [if_pos h] at p
        cases q2 : isAny cs k ts with
        | none => rw [q2] at p; exact p.elim
        | some b =>
          rw [q2] at p
          have r2' : Rep X.K Hs (.tup ts) u := r2
          simp only [Rep] at r2'
          obtain ⟨a, ws, rfl, e2, e3⟩ := r2'
          obtain ⟨us, hu, hq⟩ := isAny_kit I (kd_b q) h.2 q2 e3
          refine .inr ⟨v, a, ws, _, us, b, rfl, Same.seqT s.sc.same e2, hu, kd_ty I s.sc (fun c hc => by subst hc; exact h.1) r1 q, hq, Post.ok_ p .refl s mk_bl⟩
      · rw [if_neg h] at p; exact p.elim
  · rename_i x t _
    obtain ⟨v, u, rfl, r1, r2⟩ := as2 r
    cases q : kdA m x with
    | none => rw [q] at p; exact p.elim
    | some k =>
      rw [q] at p
      dsimp only at p
      by_cases h : okK cs k = true
      · rw [if_pos h] at p
        cases q2 : isTy cs k t with
        | none => rw [q2] at p; exact p.elim
        | some b =>
          rw [q2] at p
          exact .inl ⟨v, u, _, _, b, rfl, isTy_cls q2 r2, kd_ty I s.sc (fun c hc => by subst hc; exact h) r1 q, isTy_kit I (kd_b q) q2, Post.ok_ p .refl s mk_bl⟩
      · rw [if_neg h] at p; exact p.elim
  · exact p.elim
section
variable {X : Cx} {W : WX}
/-- a built-in type's name -/
theorem se_tyN {x : Str} {T : String} {pos : Pos} (hg : Gl X x) (hm : X.mg x = none) (hv : bootBuiltins x = some (.type T)) (hn : x ≠ "__name__" := by decide) (hd : (x == ("__debug__" : Str)) = false := by decide) : SE X W (.Name x pos) (xC (.ty T)) :=
  se_c (pe_bltn hg hm hv (v := .ty T) rfl hn hd) fun _ => by simp only [Rep]
/-- an own class's name -/
theorem se_clsN {x : Str} {pos : Pos} (hg : Gl X x) (hm : X.mg x = some (.ref (cA X.K x))) (hd : (x == ("__debug__" : Str)) = false := by decide) : SE X W (.Name x pos) (xC (.cls x)) :=
  se_c (pe_glob hg hm (v := .ref (cA X.K x)) rfl hd) fun _ => by simp only [Rep]
/-- isinstance(error, C) within the suite -/
structure ExcK (K : PySem.W.Frag) (c : Str) (cs : List Str) (ts : List String) : Prop where
  ec : ExcC K (cA K c)
  oc : ∀ T ∈ cs, PySem.W.kitOne K (.ref (cA K c)) (.ref (cA K T)) = some (excSub c T)
  ot : ∀ T ∈ ts, PySem.W.kitOne K (.ref (cA K c)) (.type T) = some false
@[simp] def oIsE (c : Str) (a dd : Addr) (cs : List Str) (ts : List String) : List Va → Mu → R Va := fun as m => match as with
  | [.d (.exn a' dd' _ _), .d (.cls T)] => if a' = a ∧ dd' = dd ∧ cs.contains T = true then .ok (.d (.bl (excSub c T))) m else .stuck
  | [.d (.exn a' dd' _ _), .d (.ty T)] => if a' = a ∧ dd' = dd ∧ ts.contains T = true then .ok (.d (.bl false)) m else .stuck
  | _ => .stuck
def rIsD (K : PySem.W.Frag) (D a dd : Addr) : List V → Hp → VK → Prop := fun xs H Q => ∃ (c : V) (cv : Value) (b : Bool), xs = [.ref a, c] ∧ ClsV c cv ∧ PySem.W.kitOne K (.ref D) cv = some b ∧ (∃ u, H dd = some (.xd [(("at" : Str), u)])) ∧ Q (.bl b) H
theorem call_isD {a D dd : Addr} {oe : Obj} {pn : List (Addr × Obj)} (C : ExcC X.K D) (hz : Zc (.ref D) (some dd) oe) (hf : ∃ vs, oe.data = .fields vs) : CallR (X.suite a ((a, oe) :: pn)) (.builtin "isinstance") (rIsD X.K D a dd) := by
  intro pins s σ H xs us Q I r h
  obtain ⟨c, cv, b, rfl, hcv, e, ⟨u, ea⟩, q⟩ := h
  obtain ⟨u1, u2, rfl, r1, r2⟩ := vals2 r
  obtain rfl : u1 = Value.ref a := r1
  have ec := hcv.eq r2
  subst ec
  obtain ⟨hget, _⟩ := I.pin (a, oe) (List.mem_append.mpr (.inl List.mem_cons_self))
  obtain ⟨vs, hv⟩ := hf
  have hx : ObjOk X.prog X.w H s.heap dd (.xd [(("at" : Str), u)]) := I.hok dd _ ea
  obtain ⟨mA, hns, hr⟩ := hx
  obtain ⟨od, ho, hl⟩ := lookIn_ns hns
  have J : PySem.W.InstAt s.heap a oe D (some od) := ⟨hget, hz.1, by unfold PySem.W.notCls; rw [hv] <;> rfl, by rw [hz.2]; exact ho⟩
  exact PySem.W.kia_one (PySem.W.kitx_excD (od := fun _ => some od) C) I.kIn J e (fun z => nomatch z) fun tk => ⟨.bl b, H, I.kept (t' := tk) fun _ _ z => z, rfl, q⟩
theorem cs_isE {c : Str} {cs : List Str} {ts : List String} {a dd : Addr} {oe : Obj} {pn : List (Addr × Obj)} (k : ExcK X.K c cs ts) (hz : Zc (.ref (cA X.K c)) (some dd) oe) (hf : ∃ vs, oe.data = .fields vs) : CalS (X.suite a ((a, oe) :: pn)) (.builtin "isinstance") (oIsE c a dd cs ts) := by
  refine ⟨_, call_isD k.ec hz hf, fun W Hs H rh sg et m as vs Q s r p => ?_⟩
  have rd : ∀ {a' dd' : Addr} {c' : Str} {x : D} {v : V}, a' = a → dd' = dd → RepA X.K Hs rh (.d (.exn a' dd' c' x)) v → v = .ref a ∧ ∃ u, H dd = some (.xd [(("at" : Str), u)]) := fun {a' dd' c' x v} h1 h2 r => by
    have r' : Rep X.K Hs (.exn a' dd' c' x) v := r
    simp only [Rep] at r'
    obtain ⟨e1, u, e2, _⟩ := r'
    subst h1 h2
    exact ⟨e1, u, s.sc.same _ _ e2⟩
  unfold oIsE at p
  split at p
  · rename_i a' dd' c' x T
    obtain ⟨v, u, rfl, r1, r2⟩ := as2 r
    by_cases h : a' = a ∧ dd' = dd ∧ cs.contains T = true
    · rw [if_pos h] at p
      obtain ⟨rfl, hu⟩ := rd h.1 h.2.1 r1
      have r2' : u = .ref (cA X.K T) := by
        have z : Rep X.K Hs (.cls T) u := r2
        simpa only [Rep] using z
      subst r2'
      exact ⟨_, _, _, rfl, .own _, k.oc T (by simpa using h.2.2), hu, Post.ok_ p .refl s mk_bl⟩
    · rw [if_neg h] at p; exact p.elim
  · rename_i a' dd' c' x T
    obtain ⟨v, u, rfl, r1, r2⟩ := as2 r
    by_cases h : a' = a ∧ dd' = dd ∧ ts.contains T = true
    · rw [if_pos h] at p
      obtain ⟨rfl, hu⟩ := rd h.1 h.2.1 r1
      have r2' : u = .ty T := by
        have z : Rep X.K Hs (.ty T) u := r2
        simpa only [Rep] using z
      subst r2'
      exact ⟨_, _, _, rfl, .ty _, k.ot T (by simpa using h.2.2), hu, Post.ok_ p .refl s mk_bl⟩
    · rw [if_neg h] at p; exact p.elim
  · exact p.elim
end
end DL
set_option maxHeartbeats 4000000
namespace DL
open PySem PySem.Spec PyProof.Rows L2
/-! ## Where an exception is handled: defs called there, for over range -/
theorem spP_run {X : Cx} {E : XK} {body : List Stmt} {g : Env → Mu → RS} {N : List Str} {n : Nat} {F : List D → R0} (hb : SB X (fun c d _ H => E c d H) body g)
    (hF : ∀ ds, ds.length = n → F ds ≠ .stuck → outP (g (startD N.length (ds.map .d)) []) = F ds) {vs : List V} {H : Hp} {Q : VK} (h : SpP X.K n F vs H Q E) :
    ∃ t, PSs X body t ∧ t { nx := fun _ H' => Q .non H', rt := Q } (L2.start N vs) H := by
  obtain ⟨hl, Hs, ds, sm, rp, z⟩ := h
  obtain ⟨t, ht, r⟩ := hb
  have sc : SC X.K Hs H [] [] := ⟨sm, rfl, fun n c e => by simp at e, List.nodup_nil, fun a ha => by cases ha⟩
  refine ⟨t, ht, r Hs H [] _ _ [] _ (sr_start sc (repAs_d rp)) ?_⟩
  have hns : F ds ≠ .stuck := fun q => by rw [q] at z; exact z
  have e := hF ds (by rw [← rp.length]; exact hl) hns
  have rh0 : ∀ {Hs' H' : Hp} {rh' : List Addr}, Ext Hs H [] Hs' H' rh' → Same H H' ∧ (∀ b, Hs' b ≠ none → Hs b ≠ none ∨ H b = none) := fun x => ⟨fun b o q => x.keep b o q (by simp), fun b q => (x.froz b q).imp id fun z => z.elim id fun q => absurd q (by simp)⟩
  show PostS X.K (fun c d _ H => E c d H) Hs H [] _ (g (startD N.length (ds.map .d)) [])
  cases q : g (startD N.length (ds.map .d)) [] with
  | nx e1 m1 =>
    rw [q] at e
    have e' : R0.ok .non = F ds := e
    rw [← e'] at z
    exact fun sg' Hs' H' rh' x s' => z .non Hs' H' x.sub s'.sc.same (rh0 x).1 (rh0 x).2 (rnon _ _)
  | ret v e1 m1 =>
    rw [q] at e
    cases v with
    | d v =>
      have e' : R0.ok v = F ds := e
      rw [← e'] at z
      exact fun u sg' Hs' H' rh' x s' hv => z u Hs' H' x.sub s'.sc.same (rh0 x).1 (rh0 x).2 hv
    | l i =>
      intro u sg' Hs' H' rh' x s' hv
      obtain ⟨a, ha, rfl⟩ := hv
      have fin : ∀ (c : Ce), m1[i]? = some (some c) → ∃ o, H' a = some o ∧ Hs' a = none ∧ RepO X.K Hs' rh' a c o := fun c hc => by
        obtain ⟨a', o, e1, e2, e3, e4⟩ := s'.sc.cell i c hc
        rw [ha] at e1
        cases e1
        exact ⟨o, e3, e2, e4⟩
      have up : ∀ o, H' a = some o → Hs' a = none → Same Hs (upd Hs' a o) ∧ Same (upd Hs' a o) H' ∧ (∀ b, upd Hs' a o b ≠ none → Hs b ≠ none ∨ H b = none) ∧ Same Hs' (upd Hs' a o) := fun o h1 h2 => by
        have sm2 : Same Hs' (upd Hs' a o) := fun b u e => by rw [upd_ne (ne_of_none e h2)]; exact e
        refine ⟨x.sub.trans sm2, fun b u e => ?_, fun b hb2 => ?_, sm2⟩
        · by_cases hba : b = a
          · subst hba; rw [upd_same] at e; cases e; exact h1
          · rw [upd_ne hba] at e; exact s'.sc.same b u e
        · by_cases hba : b = a
          · subst hba
            rcases x.new b (List.mem_of_getElem? ha) with z | z
            · cases z
            · exact .inr z
          · rw [upd_ne hba] at hb2; exact (rh0 x).2 b hb2
      have e' : (match m1[i]? with
        | some (some (.lst ds)) => R0.ok (.lst ds)
        | some (some (.dct kvs)) => .ok (.dct kvs)
        | some (some (.dtn w kvs)) => (match datP kvs with
          | some ds => .ok (.dtn w ds)
          | none => .stuck)
        | _ => .stuck) = F ds := e
      cases qm : m1[i]? with
      | none => rw [qm] at e'; exact absurd e'.symm hns
      | some oc =>
        rw [qm] at e'
        cases oc with
        | none => exact absurd e'.symm hns
        | some c =>
          obtain ⟨o, h1, h2, h3⟩ := fin c qm
          obtain ⟨u1, u2, u3, u4⟩ := up o h1 h2
          cases c with
          | lst xs =>
            dsimp only at e'
            rw [← e'] at z
            obtain ⟨vs', rfl, h4⟩ := h3
            refine z (.ref a) (upd Hs' a (.lst vs')) H' u1 u2 (rh0 x).1 u3 ?_
            simp only [Rep]
            exact ⟨a, vs', rfl, upd_same, h4.mono u4⟩
          | dct xs =>
            dsimp only at e'
            rw [← e'] at z
            obtain ⟨ws, h4, h5⟩ := h3
            refine z (.ref a) (upd Hs' a o) H' u1 u2 (rh0 x).1 u3 ?_
            simp only [Rep]
            exact ⟨a, o, ws, rfl, upd_same, h4, h5.mono u4⟩
          | obj c fs => exact absurd e'.symm hns
          | dtn w xs =>
            dsimp only at e'
            obtain ⟨ys, h4, _, h5⟩ := h3
            cases q2 : datP xs with
            | none => rw [q2] at e'; exact absurd e'.symm hns
            | some es =>
              rw [q2] at e'
              dsimp only at e'
              rw [← e'] at z
              refine z (.ref a) (upd Hs' a o) H' u1 u2 (rh0 x).1 u3 ?_
              simp only [Rep]
              exact ⟨a, ys, rfl, by rw [upd_same, h4], (h5.dat q2).mono u4⟩
  | brk e1 m1 => rw [q] at e; exact absurd e.symm hns
  | cnt e1 m1 => rw [q] at e; exact absurd e.symm hns
  | exc c d e1 m1 =>
    rw [q] at e
    have e' : R0.exc c d = F ds := e
    rw [← e'] at z
    exact fun dx v sg' Hs' H' rh' x s' hd hv => z dx v Hs' H' x.sub s'.sc.same (rh0 x).1 (rh0 x).2 ⟨hd.new, hd.fro, by simp, hd.at_⟩ hv
  | stuck => rw [q] at e; exact absurd e.symm hns
structure FnPH (P : Program) (w : World) (K : PySem.W.Frag) (mg : Str → Option Value) (base : Heap) (k : Nat) (x : Str) (n : Nat) (F : List D → R0) : Prop where
  ex : ∃ f fd ps, mg x = some (.ref f) ∧ PySem.W.keepIn K (.ref f) = true ∧ Binds K fd ps [] ∧ L2H.FnH P w K mg base (L2N.CX P w) k f fd ps (SpP K n F)
abbrev cxHD (P : Program) (w : World) (K : PySem.W.Frag) (mg : Str → Option Value) (base : Heap) (N : List Str) (qual : Str) (scope : Scope) (f : Addr) (cd : Value) (A : Around) (outer : List PySem.Env) (s : Shared) (H : Hp) (E : XK) (p : Addr × Obj) : Cx := L2H.cxH (L2N.CX P w) P w K mg base N qual scope f cd A outer s H E p
structure CokH (X : Cx) (W : WX) (k : Nat) : Prop where
  tk : L2N.Takes X W
  po : PassesOwn (model X.prog X.w) X.A X.env X.xe
  hr : L2H.RoomH k X.A
  hot : L2H.HotC X
theorem okPH {P : Program} {w : World} {K : PySem.W.Frag} {mg : Str → Option Value} {base : Heap} {x name qual : Str} {st : Stmt} {N ps : List Str} {k n : Nat} {F : List D → R0} {g : Env → Mu → RS} (h : DefOk K mg x name qual st) (S : FnScope N ps (defScope st)) (hn : ps.length = n)
    (hb : ∀ (kV doc pm : Value) (an : Option Addr) (cdv ct : Value) (us : List Value), us.length = ps.length → bindArgs (PySem.W.fnOf name qual (defArgs st) (defBody st) (defScope st) .none kV doc pm an cdv ct) ⟨us, []⟩ = pure (ps.zip us))
    (sb : ∀ (f : Addr) cd A outer s H E p, CokH (cxHD P w K mg base N qual (defScope st) f cd A outer s H E p) (fun c d _ H => E c d H) k → SB (cxHD P w K mg base N qual (defScope st) f cd A outer s H E p) (fun c d _ H => E c d H) (defBody st) g)
    (hF : ∀ ds, ds.length = n → F ds ≠ .stuck → outP (g (startD N.length (ds.map .d)) []) = F ds) : FnPH P w K mg base (k + 1) x n F := by
  obtain ⟨f, fd, hm, F0⟩ := h.ex
  have hbd := F0.bindsN hb
  obtain ⟨oc, od, dV, kV, doc, pm, an, cdv, ct, osl, rfl, lk, hcd, _, _⟩ := F0.ex
  refine ⟨f, _, ps, hm, F0.kp, hbd, L2H.fn_ofH lk hcd S (fun vs H Q E h => h.1.trans hn.symm) fun A outer s H vs Q E p hot hr h => ?_⟩
  exact spP_run (X := cxHD P w K mg base N qual (defScope st) f cdv A outer s H E p) (sb f cdv A outer s H E p ⟨L2N.takes_of (X := cxHD P w K mg base N qual (defScope st) f cdv A outer s H E p) rfl rfl rfl rfl, passes_of (X := cxHD P w K mg base N qual (defScope st) f cdv A outer s H E p) rfl, hr, ⟨p, hot, List.mem_singleton.mpr rfl⟩⟩) hF h
section
variable {X : Cx} {W : WX} {k n : Nat} {x : Str} {p pos : Pos} {e : Expr} {es : List Expr} {g : Env → Mu → R (List Va)}
theorem se_callPH {F : List D → R0} (hf : FnPH X.prog X.w X.K X.mg X.base k x n F) (hr : L2H.RoomH k X.A) (hot : L2H.HotC X) (tk : L2N.Takes X W) (hg : Gl X x) (ha : SA X W (e :: es) g) (hdb : (x == ("__debug__" : Str)) = false := by decide)
    (he : starEach (e :: es) X.env = (false, eval e X.env) :: starEach es X.env := by rfl) (hpl : (backTo pos (starEach es X.env)).any (·.1) = false := by rfl) : SE X W (.Call (.Name x p) (e :: es) [] pos) (xCallP n F g) := by
  obtain ⟨f, fd, ps, hm, hk, hb, ok⟩ := hf.ex
  obtain ⟨t, ht, r⟩ := ha
  refine ⟨_, L2H.pe_callH ok hr hot hg hm hk hb (fun sg => L2N.passAt tk sg) ht hdb he hpl, fun Hs H rh sg et m Q s z => ?_⟩
  unfold xCallP at z
  refine r Hs H rh sg et m _ s (Post.step z fun as m1 vs Hs1 H1 rh1 x1 s1 r1 p1 => ?_)
  by_cases hl : as.length = n
  · rw [if_pos hl] at p1
    exact postP_of s1 r1 (by rw [r1.length, hl]) p1
  · rw [if_neg hl] at p1
    exact p1.elim
/-- a part that is not come to -/
theorem ss_dead {st : Stmt} : SS X W st (fun _ _ => .stuck) := ⟨fun _ _ _ => False, ⟨fun _ _ _ _ _ _ h => h.elim⟩, fun _ _ _ _ _ _ _ _ z => z⟩
theorem se_dead {e : Expr} : SE X W e (fun _ _ => .stuck) := ⟨fun _ _ _ => False, ⟨fun _ _ _ _ _ _ h => h.elim⟩, fun _ _ _ _ _ _ _ _ z => z⟩
end
theorem suite_hot {X : Cx} {a : Addr} {oe : Obj} {pn : List (Addr × Obj)} {cls : Value} {d : Option Addr} (hz : L2N.Zn cls d oe) (hf : ∃ vs, oe.data = .fields vs) : L2H.HotC (X.suite a ((a, oe) :: pn)) := by
  obtain ⟨vs, hv⟩ := hf
  exact ⟨(a, oe), ⟨rfl, vs, hv, hz.2.2 vs hv⟩, List.mem_cons_self ..⟩
theorem suite_takes {X : Cx} {W : WX} (h : ∀ cls d sg H, ¬ W cls d sg H) : L2N.Takes X W := fun _ _ x => by
  obtain ⟨_, _, _, _, _, _, _, _, _, _, _, _, _, _, _, _, z⟩ := x
  exact (h _ _ _ _ z).elim
def SIH (X : Cx) (W : WX) (tg e : Expr) (f : Env → Mu → R (List Va)) : Prop := ∃ t, L2H.PIH X tg e t ∧ ∀ Hs H rh sg et m Q, SR X.K Hs H rh sg et m → PostI X.K W Hs H rh sg et Q (f et m) → t sg H Q
section
variable {X : Cx} {W : WX} {tg iter : Expr} {body : List Stmt} {pos : Pos} {f : Env → Mu → R (List Va)} {t : Va → Env → Mu → RS} {b : Env → Mu → RS}
theorem ss_forH (hp : PassesOwn (model X.prog X.w) X.A X.env X.xe) (hc : L2H.HotC X) (hi : SIH X W tg iter f) (hg : SG X tg t) (hb : SB X W body b) (hs : ∀ x, foldedSetIterable iter X.env x = pure x := by intro _; rfl) : SS X W (.For tg iter body [] pos) (zFor f t b) := by
  obtain ⟨ti, hi, ri⟩ := hi
  obtain ⟨tt, hg, rg⟩ := hg
  obtain ⟨tb, hb, rb⟩ := hb
  refine ⟨_, L2H.ps_forH hp hc hi hg hb hs, fun Hs H rh sg et m Dn s z => ri Hs H rh sg et m _ s ?_⟩
  unfold zFor R.toS at z
  cases q : f et m with
  | exc c d m1 => rw [q] at z; exact fun dx v Hs' H' rh' y s q r => z dx v sg Hs' H' rh' y s q r
  | stuck => rw [q] at z; exact z.elim
  | ok xs m1 =>
    rw [q] at z
    intro J Hs0 H0 rh0 x0 s0 gv
    have z0 : PostS X.K W Hs0 H0 rh0 Dn (dFor t b xs et m1) := PostS.ext x0 z
    refine ⟨fun i n sg' H' => n = xs.length - i ∧ i ≤ xs.length ∧ ∃ Hs' rh' e' m', SR X.K Hs' H' rh' sg' e' m' ∧ Same Hs0 Hs' ∧ rh0 <+: rh' ∧ PostS X.K W Hs' H' rh' Dn (dFor t b (xs.drop i) e' m'), ⟨xs.length, rfl, Nat.zero_le _, Hs0, rh0, et, m1, s0, .refl _, List.prefix_refl _, by simpa using z0⟩, ?_⟩
    rintro i n sg1 H1 ⟨rfl, hle, Hs1, rh1, e1, m2, s1, sm1, pf1, p1⟩
    obtain ⟨g1, g2⟩ := gv Hs1 H1 rh1 m2 s1.sc sm1 pf1 i
    by_cases hlt : i < xs.length
    · obtain ⟨go, yl⟩ := g1 hlt
      have hd : xs.drop i = xs[i] :: xs.drop (i + 1) := List.drop_eq_getElem_cons hlt
      rw [hd] at p1
      refine .inr ⟨go, fun sg' H' => ∃ Hs' rh' e' m', SR X.K Hs' H' rh' sg' e' m' ∧ Same Hs0 Hs' ∧ rh0 <+: rh' ∧ PostS X.K W Hs' H' rh' Dn (dFor t b (xs.drop (i + 1)) e' m'), fun sg' H' h => ⟨xs.length - (i + 1), by omega, rfl, hlt, h⟩, fun x H2 hy => ?_⟩
      obtain ⟨Hs2, sc2, x2, rep2⟩ := yl x H2 hy
      have s2 : SR X.K Hs2 H2 rh1 sg1 e1 m2 := s1.ext x2 sc2
      have p2 : PostS X.K W Hs2 H2 rh1 Dn (dFor t b (xs[i] :: xs.drop (i + 1)) e1 m2) := PostS.ext x2 p1
      refine rg Hs2 H2 rh1 sg1 e1 m2 xs[i] x _ s2 (rep2 _ (List.getElem?_eq_getElem hlt)) ?_
      have p3 : PostS X.K W Hs2 H2 rh1 Dn ((t xs[i] e1 m2).stored fun e m => (b e m).loop (dFor t b (xs.drop (i + 1)))) := p2
      unfold RS.stored RS.loop at p3
      cases qt : t xs[i] e1 m2 with
      | nx e3 m3 =>
        rw [qt] at p3
        intro sg3 Hs3 H3 rh3 x3 s3
        refine rb Hs3 H3 rh3 sg3 e3 m3 _ s3 ?_
        have p4 := PostS.ext x3 p3
        dsimp only at p4
        have sm3 : Same Hs0 Hs3 := sm1.trans (x2.sub.trans x3.sub)
        have pf3 : rh0 <+: rh3 := pf1.trans x3.pre
        cases qb : b e3 m3 with
        | nx e4 m4 => rw [qb] at p4; exact fun sg' Hs' H' rh' x' s' => ⟨Hs', rh', e4, m4, s', sm3.trans x'.sub, pf3.trans x'.pre, PostS.ext x' p4⟩
        | cnt e4 m4 => rw [qb] at p4; exact fun sg' Hs' H' rh' x' s' => ⟨Hs', rh', e4, m4, s', sm3.trans x'.sub, pf3.trans x'.pre, PostS.ext x' p4⟩
        | brk e4 m4 => rw [qb] at p4; exact p4
        | ret v e4 m4 => rw [qb] at p4; exact p4
        | exc c d e4 m4 => rw [qb] at p4; exact p4
        | stuck => rw [qb] at p4; exact p4.elim
      | _ => rw [qt] at p3; exact p3.elim
    · have hi : i = xs.length := by omega
      subst hi
      refine .inl ⟨g2 rfl, ?_⟩
      rw [List.drop_length] at p1
      exact p1 sg1 Hs1 H1 rh1 .refl s1
end
section
variable {X : Cx} {W : WX} {tg e : Expr} {p pos : Pos} {fa : Env → Mu → R (List Va)}
theorem si_range1H (hg : Gl X "range") (hm : X.mg "range" = none) (ha : SA X W [e] fa) (hs : starEach [e] X.env = [(false, eval e X.env)] := by rfl) : SIH X W tg (.Call (.Name "range" p) [e] [] pos) (iRng iRg1 fa) := by
  obtain ⟨t, h, r⟩ := ha
  refine ⟨_, L2H.pi_range1H hg hm h hs, fun Hs H rh sg et m Q s p => ?_⟩
  unfold iRng at p
  refine r Hs H rh sg et m _ s (PostI.step p fun as m1 vs Hs1 H1 rh1 x1 s1 r1 p1 => ?_)
  unfold iRg1 at p1
  split at p1
  · rename_i j
    obtain ⟨v, rfl, r2⟩ := as1 r1
    by_cases c : -(2 ^ 62) ≤ j ∧ j < 2 ^ 62
    · rw [if_pos c] at p1
      exact ⟨j, by rw [va_int r2], c.1, c.2, p1 _ Hs1 H1 rh1 .refl s1 gv_rng⟩
    · rw [if_neg c] at p1
      exact p1.elim
  · exact p1.elim
end
end DL
namespace DL
open PySem PySem.Spec PyProof.Rows L2
theorem unH {k : Nat} {A : Around} (r : L2H.RoomH k A) : A.units + 64 < cLine := by have := r.un; omega
theorem unH65 {k : Nat} {A : Around} (r : L2H.RoomH k A) : A.units + 65 < cLine := by have := r.un; omega
theorem roomS {k : Nat} {A : Around} {h : Option Value} (r : Room k A) : L2H.RoomH k (A.mark h) := ⟨r.dp, r.un⟩
end DL
set_option maxHeartbeats 4000000
/-! what the written part says, asked by Bools -/
namespace DL
open PySem PySem.Spec PyProof.Rows L2
abbrev oV (a b : Option Value) : Bool := decide (a = b)
abbrev oB (a b : Option Bool) : Bool := decide (a = b)
section
variable {K : PySem.W.Frag} {c : Str}
/-! an error class -/
def errB (K : PySem.W.Frag) (c : Str) : Bool :=
  PySem.W.excInitIn K (cA K c) PySem.ErrX.exB "Exception.__new__" && (PySem.W.hasDictIn K (cA K c) &&
  (He.eqO (PySem.W.findIn K (.ref (cA K c)) "__setattr__") (some (some (.builtin "object.__setattr__"))) &&
  (He.eqO (PySem.W.findIn K (.ref (cA K c)) "__getattribute__") (some (some (.builtin "BaseException.__getattribute__"))) &&
  (He.eqO (PySem.W.findIn K (.ref (cA K c)) "__getattr__") (some none) &&
  (He.eqO (PySem.W.findIn K (.ref (cA K c)) "at") (some none) &&
  (He.eqO (PySem.W.findIn K (.ref (cA K c)) "__init__") (some (some (.ref (He.fAd K (c, some "__init__"))))) &&
  (oV (PySem.W.typeIn K (.ref (He.fAd K (c, some "__init__")))) (some (.type "function")) &&
  (PySem.W.keepIn K (.ref (cA K c)) && (oB (PySem.W.subIn K (.ref (cA K c)) (.type "BaseException")) (some true) &&
  oV (PySem.W.typeIn K (.ref (cA K c))) (some (.type "type")))))))))))
theorem errCls_of {C : Addr} (q : PySem.W.excInitIn K C PySem.ErrX.exB "Exception.__new__" = true) (hd : PySem.W.hasDictIn K C = true) :
    ∃ nm q N bs bm sn sub ab col dd k0 k1 k2 k3 k5, K.lookup C = some (excClassObj nm q C N bs bm true sn sub ab col dd k0 k1 k2 k3 k5 "Exception.__new__") ∧ PySem.W.excTail PySem.ErrX.exB bm = true := by
  unfold PySem.W.excInitIn at q
  split at q
  · rename_i dd cd sl ho
    split at q
    · rename_i C' bm k0 k1 k2 k3 n k5 hm hs
      simp only [Bool.and_eq_true, beq_iff_eq, Bool.not_eq_true'] at q
      obtain ⟨⟨⟨rfl, rfl⟩, hdel⟩, ht⟩ := q
      obtain ⟨nm, bs, mro, ns, qn, hd', sn, sub, ab, col, del⟩ := cd
      dsimp only at hm hdel
      subst hm hdel
      have hsl : sl = #[k0, k1, k2, k3, some (.builtin "Exception.__new__"), k5] := by
        obtain ⟨l⟩ := sl
        simp only at hs
        rw [hs]
      subst hsl
      obtain ⟨cd2, hc2, hd2⟩ := PySem.W.any_some hd
      have e : PySem.W.clsIn K C' = some ⟨nm, bs, .ref C' :: bm, ns, qn, hd', sn, sub, ab, col, false⟩ := by unfold PySem.W.clsIn; rw [ho] <;> rfl
      rw [e] at hc2
      cases hc2
      have hd3 : hd' = true := hd2
      subst hd3
      exact ⟨nm, qn, ns, bs, bm, sn, sub, ab, col, dd, k0, k1, k2, k3, k5, ho, ht⟩
    · cases q
  · cases q
theorem errK_of {mg : Str → Option Value} {qn : Str} {st : Stmt} {fd : FuncData} (h : errB K c = true) (g : mg c = some (.ref (cA K c))) (F : FunD K "__init__" qn (defArgs st) (defBody st) (defScope st) [] [] (He.fAd K (c, some "__init__")) fd)
    (hst : ∃ p1 p2 q1 q2 q3 q4, defArgs st = PySem.ErrX.iA p1 p2 ∧ defBody st = PySem.ErrX.iB q1 q2 q3 q4 ∧ defScope st = PySem.ErrX.iS) : ErrK K mg c := by
  unfold errB at h
  obtain ⟨h1, h⟩ := He.ba h
  obtain ⟨h2, h⟩ := He.ba h
  obtain ⟨h3, h⟩ := He.ba h
  obtain ⟨h4, h⟩ := He.ba h
  obtain ⟨h5, h⟩ := He.ba h
  obtain ⟨h6, h⟩ := He.ba h
  obtain ⟨h7, h⟩ := He.ba h
  obtain ⟨h8, h⟩ := He.ba h
  obtain ⟨h9, h⟩ := He.ba h
  obtain ⟨h10, h11⟩ := He.ba h
  obtain ⟨p1, p2, q1, q2, q3, q4, e1, e2, e3⟩ := hst
  obtain ⟨oc, od, dV, kV, doc, pm, an, cdv, ct, osl, rfl, lk, hcd, hD, hK⟩ := F.ex
  have eD : dV = .none := by
    rcases hD with ⟨_, e⟩ | ⟨e, _⟩
    · exact e
    · exact absurd rfl e
  subst eD
  rw [e1, e2, e3] at lk
  exact ⟨qn, He.fAd K (c, some "__init__"), g, errCls_of h1 h2, He.eqO_ok h3, He.eqO_ok h4, He.eqO_ok h5, He.eqO_ok h6, He.eqO_ok h7, of_decide_eq_true h8, h9, of_decide_eq_true h10, of_decide_eq_true h11, h2,
    ⟨oc, od, kV, doc, pm, an, cdv, ct, osl, p1, p2, q1, q2, q3, q4, [], lk, hcd, rfl⟩⟩
/-! except clauses -/
def exmB (K : PySem.W.Frag) (cs : List Str) (h : Str) : Bool := cs.all fun c => oB (PySem.W.exmOne K (.ref (cA K c)) (.ref (cA K h))) (some (excSub c h))
theorem exmB_ok {cs : List Str} {h : Str} (q : exmB K cs h = true) : ∀ c, cs.contains c = true → PySem.W.exmOne K (.ref (cA K c)) (.ref (cA K h)) = some (excSub c h) := fun c hc =>
  of_decide_eq_true (List.all_eq_true.mp q c (by simpa using hc))
/-! isinstance -/
def objB (K : PySem.W.Frag) (c : Str) : Bool := PySem.W.plainGet K (cA K c) Str.empty && (PySem.W.hasDictIn K (cA K c) && (PySem.W.plainOver K (cA K c) && (He.eqO (PySem.W.findIn K (.ref (cA K c)) "__setattr__") (some (some (.builtin "object.__setattr__"))) &&
  (He.eqO (PySem.W.findIn K (.ref (cA K c)) "__class__") (some (some (.builtin "object.__class__"))) && oB (PySem.W.mroIn K (cA K c) (.type "object")) (some true)))))
def isiB (K : PySem.W.Frag) (cs : List Str) : Bool := (cs.all fun T => bTys.all fun a => oB (PySem.W.kitOne K (.type a) (.ref (cA K T))) (some false)) && ((cs.all fun c => objB K c) && ((cs.all fun c => cs.all fun T => oB (PySem.W.kitOne K (.ref (cA K c)) (.ref (cA K T))) (some (c == T))) &&
  ((cs.all fun c => bTys.all fun T => oB (PySem.W.kitOne K (.ref (cA K c)) (.type T)) (some false)) &&
  (He.eqO (PySem.W.specialIn K (.builtin "object.__class__") "__get__") (some (some (.builtin "getset_descriptor.__get__"))) && oB (PySem.W.takesIn K (.builtin "object.__class__")) (some true)))))
theorem objB_ok (h : objB K c = true) : Cls K (cA K c) ∧ PySem.W.findIn K (.ref (cA K c)) "__class__" = some (some (.builtin "object.__class__")) ∧ PySem.W.mroIn K (cA K c) (.type "object") = some true := by
  unfold objB at h
  obtain ⟨h1, h⟩ := He.ba h
  obtain ⟨h2, h⟩ := He.ba h
  obtain ⟨h3, h⟩ := He.ba h
  obtain ⟨h4, h⟩ := He.ba h
  obtain ⟨h5, h6⟩ := He.ba h
  exact ⟨⟨h1, h2, h3, He.eqO_ok h4⟩, He.eqO_ok h5, of_decide_eq_true h6⟩
theorem isiB_ok {cs : List Str} (h : isiB K cs = true) : IsiK K cs := by
  unfold isiB at h
  obtain ⟨h1, h⟩ := He.ba h
  obtain ⟨h2, h⟩ := He.ba h
  obtain ⟨h3, h⟩ := He.ba h
  obtain ⟨h4, h⟩ := He.ba h
  obtain ⟨h5, h6⟩ := He.ba h
  exact ⟨fun T hT a ha => of_decide_eq_true (List.all_eq_true.mp (List.all_eq_true.mp h1 T hT) a ha), fun c hc => objB_ok (List.all_eq_true.mp h2 c hc),
    fun c hc T hT => of_decide_eq_true (List.all_eq_true.mp (List.all_eq_true.mp h3 c hc) T hT), fun c hc T hT => of_decide_eq_true (List.all_eq_true.mp (List.all_eq_true.mp h4 c hc) T hT), He.eqO_ok h5, of_decide_eq_true h6⟩
/-! isinstance of a caught error -/
def excKB (K : PySem.W.Frag) (cs : List Str) (ts : List String) (c : Str) : Bool :=
  He.eqO (PySem.W.findIn K (.ref (cA K c)) "__getattribute__") (some (some (.builtin "BaseException.__getattribute__"))) && (He.eqO (PySem.W.findIn K (.ref (cA K c)) "__getattr__") (some none) &&
  (oB (PySem.W.subIn K (.ref (cA K c)) (.type "BaseException")) (some true) && (PySem.W.hasDictIn K (cA K c) && (He.eqO (PySem.W.findIn K (.ref (cA K c)) "__class__") (some (some (.builtin "object.__class__"))) &&
  (He.eqO (PySem.W.specialIn K (.builtin "object.__class__") "__get__") (some (some (.builtin "getset_descriptor.__get__"))) && (oB (PySem.W.takesIn K (.builtin "object.__class__")) (some true) && (oB (PySem.W.mroIn K (cA K c) (.type "object")) (some true) &&
  ((cs.all fun T => oB (PySem.W.kitOne K (.ref (cA K c)) (.ref (cA K T))) (some (excSub c T))) && ts.all fun T => oB (PySem.W.kitOne K (.ref (cA K c)) (.type T)) (some false)))))))))
theorem excKB_ok {cs : List Str} {ts : List String} (h : excKB K cs ts c = true) : ExcK K c cs ts := by
  unfold excKB at h
  obtain ⟨h1, h⟩ := He.ba h
  obtain ⟨h2, h⟩ := He.ba h
  obtain ⟨h3, h⟩ := He.ba h
  obtain ⟨h4, h⟩ := He.ba h
  obtain ⟨h5, h⟩ := He.ba h
  obtain ⟨h6, h⟩ := He.ba h
  obtain ⟨h7, h⟩ := He.ba h
  obtain ⟨h8, h⟩ := He.ba h
  obtain ⟨h9, h10⟩ := He.ba h
  exact ⟨⟨He.eqO_ok h1, He.eqO_ok h2, of_decide_eq_true h3, h4, He.eqO_ok h5, He.eqO_ok h6, of_decide_eq_true h7, of_decide_eq_true h8⟩, fun T hT => of_decide_eq_true (List.all_eq_true.mp h9 T hT), fun T hT => of_decide_eq_true (List.all_eq_true.mp h10 T hT)⟩
end
end DL
namespace DL
open PySem
@[simp] theorem ofString_inj (a b : String) : (Str.ofString a = Str.ofString b) ↔ a = b := by
  refine ⟨fun h => ?_, fun h => by rw [h]⟩
  rw [Str.ofString_eq_toList, Str.ofString_eq_toList] at h
  have h1 : (a.toList.map Char.toNat).toArray = (b.toList.map Char.toNat).toArray := congrArg Str.cps h
  have h2 : a.toList.map Char.toNat = b.toList.map Char.toNat := by simpa using h1
  have h3 : a.toList = b.toList := by
    have inj : ∀ (x y : List Char), x.map Char.toNat = y.map Char.toNat → x = y := by
      intro x
      induction x with
      | nil => intro y h; cases y with | nil => rfl | cons _ _ => simp at h
      | cons c x ih =>
        intro y h
        cases y with
        | nil => simp at h
        | cons d y =>
          simp only [List.map_cons, List.cons.injEq] at h
          rw [ih y h.2, Char.toNat_inj.mp h.1]
    exact inj _ _ h2
  exact String.toList_inj.mp h3
@[simp] theorem ofString_beq (a b : String) : (Str.ofString a == Str.ofString b) = (a == b) := by
  rw [Bool.eq_iff_iff]
  simp
end DL
set_option maxHeartbeats 4000000
/-! the end: a law's def -/
namespace DL
open PySem PySem.Spec PyProof.Rows L2
theorem fnOk_of {P : Program} {w : World} {K : PySem.W.Frag} {mg : Str → Option Value} {base : Heap} {name qual : Str} {st : Stmt} {N ps : List Str} {k n : Nat} {F : List D → R0} {g : Env → Mu → RS} {f : Addr} {fd : FuncData} (F0 : FunD K name qual (defArgs st) (defBody st) (defScope st) [] [] f fd) (S : FnScope N ps (defScope st)) (hn : ps.length = n)
    (sb : ∀ (f : Addr) cd A outer s H E, Cok (cxD P w K mg base N qual (defScope st) f cd A outer s H E) (fun c d _ H => E c d H) k → SB (cxD P w K mg base N qual (defScope st) f cd A outer s H E) (fun c d _ H => E c d H) (defBody st) g)
    (hF : ∀ ds, ds.length = n → F ds ≠ .stuck → outP (g (startD N.length (ds.map .d)) []) = F ds) : FnOk P w K mg base (L2N.CX P w) (k + 1) f fd ps (SpP K n F) := by
  refine F0.ok S (fun vs H Q E h => h.1.trans hn.symm) fun cd A outer s H vs Q E hr h => ?_
  exact spP_run (X := cxD P w K mg base N qual (defScope st) f cd A outer s H E) (sb f cd A outer s H E ⟨L2N.takes_of (X := cxD P w K mg base N qual (defScope st) f cd A outer s H E) rfl rfl rfl rfl, passes_of (X := cxD P w K mg base N qual (defScope st) f cd A outer s H E) rfl, hr, rfl⟩) hF h
theorem walk_ofD {l : PySem.W.OpenLaw} {n k : Nat} {q : Program} {loose : List Str} {XP : (Str → Option Value) → Heap → Prop} {YP : World → Heap → Prop} {d : DefRec} {CX : World → CXT} {x : Str}
    (hn : l.most = some n) (hn2 : n ≤ sizeLine) (hdf : d.params.defaults = []) (hr : Room k callerA)
    (F : ∀ (w : World) (mg : Str → Option Value) (fa : Addr) (h : Heap), YP w h → h.Ns mainGlobals mg → mg d.name = some (.ref fa) →
      ∃ (K : PySem.W.Frag) (fd : FuncData) (sp : Sp), K.In h ∧ (∀ (s : Shared) (u : Value), BindsTo s fd ⟨[u], []⟩ [(x, u)]) ∧
        (∀ (H : Hp) (a : Addr) (ns : List Int), ns.length ≤ n → Only H → SqL K H a (ns.map V.int) → sp [.ref a] H (fun v _ => v = .bl true) fun _ _ _ => False) ∧
        ∀ base : Heap, K.In base → base.Ns mainGlobals mg → FnOk l.prog w K mg base (CX w) k fa fd [x] sp)
    (hCX : ∀ (w : World) (H : Hp) (s : Shared) (e : Value) (s' : Shared), CX w [] H s (fun _ _ _ => False) e s' → False) :
    PySem.W.WalkO q loose XP YP l.row.toRowW d [] (fun f vs => PySem.call f vs) := by
  refine Att.attach_call hn hdf fun w s₀ s₁ mg mb fa o pm cd doc a vs ns G Y ho hd hcd hmg hobj hints hlen hg => ?_
  obtain ⟨K, fd, sp, KX, hb, hsp, hF⟩ := F w mg fa _ Y G.T.g hmg
  exact law_call KX G.T.g G.T.b G.T.builtins G.T.nolimit hg hobj hints (Nat.le_trans hlen hn2) hr hF hb (fun H hO hS => hsp H a ns hlen hO hS) fun H e s' => hCX w H s₁ e s'
theorem cx_no {P : Program} {w : World} {H : Hp} {s : Shared} {e : Value} {s' : Shared} (h : L2N.CX P w [] H s (fun _ _ _ => False) e s') : False := by
  obtain ⟨_, _, _, _, _, _, _, _, _, _, _, _, z⟩ := h
  exact z
theorem sp_law_of {K : PySem.W.Frag} {F : List D → R0} {H : Hp} {a : Addr} {ns : List Int} {E : XK} (hS : SqL K H a (ns.map V.int)) (h : F [.scr ns] = .ok (.bl true)) : SpP K 1 F [.ref a] H (fun v _ => v = .bl true) E := by
  refine ⟨rfl, H, [.scr ns], .refl _, ?_, ?_⟩
  · refine reps_cons.mpr ⟨?_, reps_nil.mpr rfl⟩
    simp only [Rep]
    exact ⟨a, rfl, hS⟩
  · rw [h]
    intro v Hs' H' _ _ _ _ r
    exact rep_bl r
end DL
set_option maxHeartbeats 4000000
/-! instances that stay as they are made -/
namespace DL
open PySem PySem.Spec PyProof.Rows L2
@[simp] def datasF : List (Str × Va) → Option (List (Str × D))
  | [] => some []
  | (x, .d d) :: r => (datasF r).map ((x, d) :: ·)
  | (_, .l _) :: _ => none
@[simp] def outI : RS → R0
  | .nx _ m => (match (m[0]? : Option (Option Ce)) with
    | some (some (.obj c fs)) => (match datasF fs with
      | some ds => .ok (.obj c ds)
      | none => .stuck)
    | _ => .stuck)
  | .exc c d _ _ => .exc c d
  | _ => .stuck
section
variable (K : PySem.W.Frag)
def PostN (Hs H : Hp) (x : Addr) (Q : VK) (E : XK) : R0 → Prop
  | .ok d => ∀ Hs' H', Same Hs Hs' → Same Hs' H' → (∀ b o, b ≠ x → H b = some o → H' b = some o) → (∀ b, Hs' b ≠ none → Hs b ≠ none ∨ H b = none ∨ b = x) → Rep K Hs' d (.ref x) → Q .non H'
  | .exc c d => ∀ dx v Hs' H', Same Hs Hs' → Same Hs' H' → (∀ b o, b ≠ x → H b = some o → H' b = some o) → (∀ b, Hs' b ≠ none → Hs b ≠ none ∨ H b = none ∨ b = x) → XdAt H Hs' H' [] dx v → Rep K Hs' d v → E (.ref (cA K c)) (some dx) H'
  | .stuck => False
def SpN (c : Str) (n : Nat) (F : List D → R0) : Sp := fun vs H Q E => vs.length = n + 1 ∧ ∃ Hs ds x dx vr, Same Hs H ∧ vs = .ref x :: vr ∧ Reps K Hs ds vr ∧ H x = some (.ins (cA K c) dx []) ∧ Hs x = none ∧ PostN K Hs H x Q E (F ds)
end
theorem datasF_rep {K : PySem.W.Frag} {Hs : Hp} {rh : List Addr} : ∀ {fs : List (Str × Va)} {vs : List (Str × V)} {ds : List (Str × D)}, RepAF K Hs rh fs vs → datasF fs = some ds → RepF K Hs ds vs
  | [], vs, ds, h, e => by
    cases e
    show RepF K Hs [] vs
    simp only [RepF]
    exact h
  | (x, .d d) :: r, vs, ds, h, e => by
    obtain ⟨v, r', rfl, h1, h2⟩ := h
    have e' : (datasF r).map ((x, d) :: ·) = some ds := e
    cases q : datasF r with
    | none => rw [q] at e'; cases e'
    | some ds' =>
      rw [q] at e'
      cases e'
      show RepF K Hs ((x, d) :: ds') _
      simp only [RepF]
      exact ⟨v, r', rfl, h1, datasF_rep h2 q⟩
  | (_, .l _) :: _, _, _, _, e => by cases e
theorem spN_run {X : Cx} {E : XK} {body : List Stmt} {g : Env → Mu → RS} {N : List Str} {n : Nat} {F : List D → R0} {c : Str} (hb : SB X (fun c d _ H => E c d H) body g)
    (hF : ∀ ds, ds.length = n → F ds ≠ .stuck → outI (g (startD N.length (.l 0 :: ds.map .d)) [some (.obj c [])]) = F ds) {vs : List V} {H : Hp} {Q : VK} (h : SpN X.K c n F vs H Q E) :
    ∃ t, PSs X body t ∧ t { nx := fun _ H' => Q .non H', rt := Q } (L2.start N vs) H := by
  obtain ⟨hl, Hs, ds, x, dx, vr, sm, rfl, rp, hx, hsx, z⟩ := h
  obtain ⟨t, ht, r⟩ := hb
  have sc : SC X.K Hs H [x] [some (.obj c [])] := ⟨sm, rfl, fun i d e => by
    cases i with
    | zero => cases e; exact ⟨x, _, rfl, hsx, hx, dx, [], rfl, rfl⟩
    | succ i => simp at e, List.nodup_cons.mpr ⟨by simp, List.nodup_nil⟩, fun a ha => by
      rw [List.mem_singleton.mp ha, hx]
      exact fun z => nomatch z⟩
  have ra : RepAs X.K Hs [x] (.l 0 :: ds.map .d) (.ref x :: vr) := ⟨_, _, rfl, ⟨x, rfl, rfl⟩, repAs_d rp⟩
  refine ⟨t, ht, r Hs H [x] _ _ _ _ (sr_start sc ra) ?_⟩
  have hns : F ds ≠ .stuck := fun q => by rw [q] at z; exact z
  have e := hF ds (by rw [← rp.length]; simpa using hl) hns
  have fr : ∀ {Hs' H' : Hp} {rh' : List Addr}, Ext Hs H [x] Hs' H' rh' → (∀ b o, b ≠ x → H b = some o → H' b = some o) ∧ (∀ b, Hs' b ≠ none → Hs b ≠ none ∨ H b = none ∨ b = x) := fun x => ⟨fun b o hb q => x.keep b o q (by simpa using hb), fun b q => (x.froz b q).imp id fun z => z.imp id fun q => List.mem_singleton.mp q⟩
  show PostS X.K (fun c d _ H => E c d H) Hs H [x] _ (g (startD N.length (.l 0 :: ds.map .d)) [some (.obj c [])])
  cases q : g (startD N.length (.l 0 :: ds.map .d)) [some (.obj c [])] with
  | nx e1 m1 =>
    rw [q] at e
    have e' : (match (m1[0]? : Option (Option Ce)) with
      | some (some (.obj c fs)) => (match datasF fs with
        | some ds => R0.ok (.obj c ds)
        | none => .stuck)
      | _ => .stuck) = F ds := e
    intro sg' Hs' H' rh' xx s'
    cases q1 : m1[0]? with
    | none => rw [q1] at e'; exact absurd e'.symm hns
    | some oc =>
      rw [q1] at e'
      cases oc with
      | none => exact absurd e'.symm hns
      | some ce =>
        cases ce with
        | lst _ => exact absurd e'.symm hns
        | dct _ => exact absurd e'.symm hns
        | dtn _ _ => exact absurd e'.symm hns
        | obj c' fs =>
          dsimp only at e'
          cases q2 : datasF fs with
          | none => rw [q2] at e'; exact absurd e'.symm hns
          | some fds =>
            rw [q2] at e'
            dsimp only at e'
            rw [← e'] at z
            obtain ⟨a, o, k1, k2, k3, dx', ws, rfl, k4⟩ := s'.sc.cell 0 _ q1
            have ax : a = x := by
              obtain ⟨t', ht'⟩ := xx.pre
              rw [← ht'] at k1
              simpa using k1.symm
            subst ax
            have sm2 : Same Hs' (upd Hs' a (.ins (cA X.K c') dx' ws)) := fun b u e => by rw [upd_ne (ne_of_none e k2)]; exact e
            refine z (upd Hs' a (.ins (cA X.K c') dx' ws)) H' (xx.sub.trans sm2) (fun b u e => ?_) (fr xx).1 (fun b hb => ?_) ?_
            · by_cases hb : b = a
              · subst hb; rw [upd_same] at e; cases e; exact k3
              · rw [upd_ne hb] at e; exact s'.sc.same b u e
            · by_cases hba : b = a
              · exact .inr (.inr hba)
              · rw [upd_ne hba] at hb; exact (fr xx).2 b hb
            · simp only [Rep]
              exact ⟨a, dx', ws, rfl, upd_same, (datasF_rep k4 q2).mono sm2⟩
  | ret v e1 m1 => rw [q] at e; exact absurd e.symm hns
  | brk e1 m1 => rw [q] at e; exact absurd e.symm hns
  | cnt e1 m1 => rw [q] at e; exact absurd e.symm hns
  | exc c' d e1 m1 =>
    rw [q] at e
    have e' : R0.exc c' d = F ds := e
    rw [← e'] at z
    exact fun dx v sg' Hs' H' rh' xx s' hd hv => z dx v Hs' H' xx.sub s'.sc.same (fr xx).1 (fr xx).2 ⟨hd.new, hd.fro, by simp, hd.at_⟩ hv
  | stuck => rw [q] at e; exact absurd e.symm hns
/-- a class whose instances stay -/
structure NewOk (P : Program) (w : World) (K : PySem.W.Frag) (mg : Str → Option Value) (base : Heap) (k : Nat) (c : Str) (n : Nat) (ks : List Str) (F : List D → R0) : Prop where
  ex : ∃ f fd ps, mg c = some (.ref (cA K c)) ∧ Mk K (cA K c) f ∧ Binds K fd ps [] ∧ KBn K fd ps 1 ks (fun us ws => us ++ ws) (fun vs zs => vs ++ zs) ∧ ks.length = n ∧ FnOk P w K mg base (L2N.CX P w) k f fd ps (SpN K c n F)
section
variable {X : Cx} {CX : CXT} {k : Nat} {f C : Addr} {fd : FuncData} {ps ks : List Str} {sp : Sp} {E : St2 → XK} {x : Str} {p pos : Pos} {e : Expr} {es : List Expr} {kws : List Keyword} {t tk : TA} {n : Nat}
theorem run_makeS {pins : List (Addr × Obj)} {σ : St2} {H : Hp} {s : Shared} {Q : VK} {us : List Value} {vs : List V} (M : Mk X.K C f) (F : FnOk X.prog X.w X.K X.mg X.base CX k f fd ps sp) (hr : Room (k + 1) X.A) (hb : Binds X.K fd ps [])
    (hx : PassesAt CX X σ (E σ)) (I : Inv X pins σ H s) (r : Vals vs us)
    (h : ∀ x dx, H x = none → H dx = none → dx ≠ x → sp (.ref x :: vs) (upd (upd H dx (.own x)) x (.ins C dx [])) (fun v H2 => v = .non ∧ Q (.ref x) H2) (E σ)) :
    wpAny (model X.prog X.w) X.A (call (.ref C) us) (EP X pins σ Q) X.xe s := by
  have hq := h (s.heap.objs.size + 1) s.heap.objs.size (I.hok.fresh (Nat.le_succ _)) (I.hok.fresh (Nat.le_refl _)) (Nat.ne_of_lt (Nat.lt_succ_self _))
  have I2 := Inv.made (C := C) I
  have r2 : Vals (V.ref (s.heap.objs.size + 1) :: vs) (Value.ref (s.heap.objs.size + 1) :: us) := .cons rfl r
  have hl : (Value.ref (s.heap.objs.size + 1) :: us ++ []).length = ps.length := by
    have e := r2.length
    rw [F.len _ _ _ _ hq] at e
    rw [List.append_nil]
    exact e.symm
  have b := hb _ (Value.ref (s.heap.objs.size + 1) :: us) I2.kIn hl
  rw [List.append_nil] at b
  refine wpAny_call (make_map (f := f) I.kIn M.makes M.init (beq_iff_eq.mp M.fn) (codeAny_mono (F.run _ X.stack _ _ ⟨Value.ref (s.heap.objs.size + 1) :: us, []⟩ (Value.ref (s.heap.objs.size + 1) :: us) _ _ (E σ) (hr.make C us [])
    (I2.env0.make C us []) b r2 hq) fun r s' hq' => ?_))
  cases r with
  | error e => exact hx pins _ _ e s' I2 hq'
  | ok fl =>
    cases fl with
    | ret u =>
      obtain ⟨v, H', I3, rv, ev, q3⟩ := I2.after hq'
      subst ev
      exact ⟨rv, ⟨V.ref (s.heap.objs.size + 1), H', I3, rfl, q3⟩⟩
    | next => exact False.elim hq'
    | brk => exact False.elim hq'
    | cont => exact False.elim hq'
theorem run_makeKS {pins : List (Addr × Obj)} {σ : St2} {H : Hp} {s : Shared} {Q : VK} {us ws : List Value} {vs zs : List V} {g : List Value → List Value → List Value} {gV : List V → List V → List V} (M : Mk X.K C f) (F : FnOk X.prog X.w X.K X.mg X.base CX k f fd ps sp) (hr : Room (k + 1) X.A) (hb : KBn X.K fd ps (n + 1) ks g gV) (hx : PassesAt CX X σ (E σ))
    (I : Inv X pins σ H s) (r : Vals vs us) (rz : Vals zs ws) (l1 : vs.length = n) (l2 : zs.length = ks.length)
    (h : ∀ x dx, H x = none → H dx = none → dx ≠ x → sp (gV (.ref x :: vs) zs) (upd (upd H dx (.own x)) x (.ins C dx [])) (fun v H2 => v = .non ∧ Q (.ref x) H2) (E σ)) :
    wpAny (model X.prog X.w) X.A (call (.ref C) us (ks.zip ws)) (EP X pins σ Q) X.xe s := by
  have hq := h (s.heap.objs.size + 1) s.heap.objs.size (I.hok.fresh (Nat.le_succ _)) (I.hok.fresh (Nat.le_refl _)) (Nat.ne_of_lt (Nat.lt_succ_self _))
  have I2 := Inv.made (C := C) I
  have r1 : Vals (V.ref (s.heap.objs.size + 1) :: vs) (Value.ref (s.heap.objs.size + 1) :: us) := .cons rfl r
  have r2 := hb.rel r1 rz
  have n1 : (Value.ref (s.heap.objs.size + 1) :: us).length = n + 1 := by
    rw [List.length_cons, ← r.length, l1]
  refine wpAny_call (make_map (f := f) I.kIn M.makes M.init (beq_iff_eq.mp M.fn) (codeAny_mono (F.run _ X.stack _ _ ⟨Value.ref (s.heap.objs.size + 1) :: us, ks.zip ws⟩ (g (Value.ref (s.heap.objs.size + 1) :: us) ws) _ _ (E σ) (hr.make C us (ks.zip ws))
    (I2.env0.make C us (ks.zip ws)) (hb.to _ (Value.ref (s.heap.objs.size + 1) :: us) ws I2.kIn n1 (rz.length.symm.trans l2)) r2 hq) fun r s' hq' => ?_))
  cases r with
  | error e => exact hx pins _ _ e s' I2 hq'
  | ok fl =>
    cases fl with
    | ret u =>
      obtain ⟨v, H', I3, rv, ev, q3⟩ := I2.after hq'
      subst ev
      exact ⟨rv, ⟨V.ref (s.heap.objs.size + 1), H', I3, rfl, q3⟩⟩
    | next => exact False.elim hq'
    | brk => exact False.elim hq'
    | cont => exact False.elim hq'
def tMakeS (C : Addr) (sp : Sp) (E : St2 → XK) (t : TA) : TE := fun σ H Q => t σ H fun vs H1 => ∀ x dx, H1 x = none → H1 dx = none → dx ≠ x → sp (.ref x :: vs) (upd (upd H1 dx (.own x)) x (.ins C dx [])) (fun v H2 => v = .non ∧ Q (.ref x) H2) (E σ)
theorem pe_makeS (M : Mk X.K C f) (F : FnOk X.prog X.w X.K X.mg X.base CX k f fd ps sp) (hr : Room (k + 1) X.A) (hg : Gl X x) (hm : X.mg x = some (.ref C)) (hb : Binds X.K fd ps []) (hx : ∀ σ, PassesAt CX X σ (E σ))
    (ha : PA X (e :: es) t) (hdb : (x == ("__debug__" : Str)) = false := by decide) (he : starEach (e :: es) X.env = (false, eval e X.env) :: starEach es X.env := by rfl) (hpl : (backTo pos (starEach es X.env)).any (·.1) = false := by rfl) :
    PE X (.Call (.Name x p) (e :: es) [] pos) (tMakeS C sp E t) := by
  refine ⟨fun pins s σ H Q I h => ?_⟩
  refine wpAny_Call_Name_kw (ld_glob I hg hm ?_ hdb)
  refine PySem.W.callWith_K (h₀ := X.base) I.ok.mod.kin M.kp (thn (ha.run pos pins s σ H _ I h) fun us s1 ⟨vs, H1, I1, r, q⟩ => ⟨I1.kIn, ?_⟩) he hpl
  exact run_makeS M F hr hb (hx σ) I1 r q
def tMakeKS (C : Addr) (m : Nat) (sp : Sp) (E : St2 → XK) (tk : TA) : TE := fun σ H Q => tk σ H fun zs H2 => zs.length = m ∧ ∀ x dx, H2 x = none → H2 dx = none → dx ≠ x →
  sp (.ref x :: zs) (upd (upd H2 dx (.own x)) x (.ins C dx [])) (fun v H3 => v = .non ∧ Q (.ref x) H3) (E σ)
theorem pe_makeKS (M : Mk X.K C f) (F : FnOk X.prog X.w X.K X.mg X.base CX k f fd ps sp) (hr : Room (k + 1) X.A) (hg : Gl X x) (hm : X.mg x = some (.ref C)) (hb : KBn X.K fd ps 1 ks (fun us ws => us ++ ws) (fun vs zs => vs ++ zs)) (hx : ∀ σ, PassesAt CX X σ (E σ)) (hkw : PK X kws tk)
    (hall : (backToKw pos (keywordEach kws X.env)).all (·.1.isSome) = true := by rfl) (hks : (backToKw pos (keywordEach kws X.env)).filterMap (·.1) = ks := by rfl) (hdb : (x == ("__debug__" : Str)) = false := by decide)
    (hpl : ((backTo pos (starEach [] X.env)).any (·.1) || (backToKw pos (keywordEach kws X.env)).any (·.1.isNone)) = false := by rfl) :
    PE X (.Call (.Name x p) [] kws pos) (tMakeKS C ks.length sp E tk) := by
  refine ⟨fun pins s σ H Q I h => ?_⟩
  refine wpAny_Call_Name_kw (ld_glob I hg hm ?_ hdb)
  refine PySem.W.callWith_KW0 (h₀ := X.base) I.ok.mod.kin M.kp hall ?_ hpl
  refine thn (hkw.run pos pins s σ H _ I h) fun ws s2 ⟨zs, H2, I2, rz, l2, q2⟩ => ⟨I2.kIn, ?_⟩
  rw [hks]
  exact run_makeKS (n := 0) (us := []) (vs := []) M F hr hb (hx σ) I2 .nil rz rfl l2 q2
end
section
variable {X : Cx} {W : WX}
/-- keywords -/
def SKw (X : Cx) (W : WX) (kws : List Keyword) (f : Env → Mu → R (List Va)) : Prop := ∃ t, PK X kws t ∧ ∀ Hs H rh sg et m Q, SR X.K Hs H rh sg et m → Post X.K W (RlAs X.K) Hs H rh sg et Q (f et m) → t sg H Q
theorem skw_nil : SKw X W [] xNil := ⟨_, pk_nil, fun Hs H rh sg et m Q s p => Post.ok_ p .refl s rfl⟩
theorem skw_cons {nm : Option Str} {kpos : Pos} {e : Expr} {kws : List Keyword} {f : Env → Mu → R Va} {g : Env → Mu → R (List Va)} (hf : SE X W e f) (hg : SKw X W kws g) : SKw X W (⟨nm, e, kpos⟩ :: kws) (xCons f g) := by
  obtain ⟨t, h, r⟩ := hf
  obtain ⟨t', h', r'⟩ := hg
  refine ⟨_, pk_cons h h', fun Hs H rh sg et m Q s p => ?_⟩
  unfold xCons at p
  refine r Hs H rh sg et m _ s (Post.step p fun d m1 v Hs1 H1 rh1 x1 s1 r1 p1 => ?_)
  refine r' Hs1 H1 rh1 sg et m1 _ s1 (Post.step p1 fun ds m2 vs Hs2 H2 rh2 x2 s2 r2 p2 => ?_)
  exact Post.ok_ p2 .refl s2 ⟨v, vs, rfl, r1.ext x2, r2⟩
/-- the maker's promise, where cells stand beside -/
theorem postN_of {K : PySem.W.Frag} {Hs H : Hp} {rh : List Addr} {sg : St2} {et : Env} {m : Mu} {c : Str} {n : Nat} {F : List D → R0} {as : List Va} {vs : List V} {Q : VK} (s : SR K Hs H rh sg et m) (r : RepAs K Hs rh as vs) (hn : vs.length = n) (p : Post K W (RlA K) Hs H rh sg et Q (liftP F as m))
    (x dx : Addr) (hx : H x = none) (hdx : H dx = none) (hne : dx ≠ x) : SpN K c n F (.ref x :: vs) (upd (upd H dx (.own x)) x (.ins (cA K c) dx [])) (fun v H2 => v = .non ∧ Q (.ref x) H2) (WE W sg) := by
  unfold liftP at p
  cases q : datas as with
  | none => rw [q] at p; exact p.elim
  | some ds =>
    rw [q] at p
    have hH : ∀ b o, H b = some o → upd (upd H dx (.own x)) x (.ins (cA K c) dx []) b = some o := fun b o e => by rw [upd_ne (ne_of_none e hx), upd_ne (ne_of_none e hdx)]; exact e
    have hN : ∀ b, upd (upd H dx (.own x)) x (.ins (cA K c) dx []) b = none → H b = none := fun b e => by
      cases q : H b with
      | none => rfl
      | some o => rw [hH b o q] at e; cases e
    refine ⟨by rw [List.length_cons, hn], Hs, ds, x, dx, vs, fun b o e => hH b o (s.sc.same b o e), rfl, reps_datas r q, upd_same, s.sc.same.free hx, ?_⟩
    dsimp only at p
    have back : ∀ {Hs' H' : Hp}, Same Hs Hs' → Same Hs' H' → (∀ b o, b ≠ x → upd (upd H dx (.own x)) x (.ins (cA K c) dx []) b = some o → H' b = some o) → (∀ b, Hs' b ≠ none → Hs b ≠ none ∨ upd (upd H dx (.own x)) x (.ins (cA K c) dx []) b = none ∨ b = x) →
        SC K Hs' H' rh m ∧ Ext Hs H rh Hs' H' rh := fun a b c f => s.sc.frame a b (fun b o e => c b o (ne_of_none e hx) (hH b o e)) fun b hb => (f b hb).imp id fun z => z.elim (fun z => hN b z) fun z => by rw [z]; exact hx
    cases z : F ds with
    | ok d =>
      rw [z] at p
      intro Hs' H' a b c f hv
      obtain ⟨sc, xx⟩ := back a b c f
      exact ⟨rfl, p _ Hs' H' rh xx (s.ext xx sc) hv⟩
    | exc c d =>
      rw [z] at p
      intro dx' v Hs' H' a b c f hd hv
      obtain ⟨sc, xx⟩ := back a b c f
      exact p dx' v Hs' H' rh xx (s.ext xx sc) ⟨hN _ hd.new, hd.fro, fun z => s.sc.old dx' z (hN _ hd.new), hd.at_⟩ hv
    | stuck => rw [z] at p; exact p.elim
variable {k n : Nat} {c : Str} {ks : List Str} {F : List D → R0} {p pos : Pos} {e : Expr} {es : List Expr} {kws : List Keyword} {g : Env → Mu → R (List Va)}
theorem se_new (hf : NewOk X.prog X.w X.K X.mg X.base k c n ks F) (hr : Room (k + 1) X.A) (tk : L2N.Takes X W) (hg : Gl X c) (ha : SA X W (e :: es) g) (hdb : (c == ("__debug__" : Str)) = false := by decide)
    (he : starEach (e :: es) X.env = (false, eval e X.env) :: starEach es X.env := by rfl) (hpl : (backTo pos (starEach es X.env)).any (·.1) = false := by rfl) : SE X W (.Call (.Name c p) (e :: es) [] pos) (xCallP n F g) := by
  obtain ⟨f, fd, ps, hm, hM, hb, _, _, ok⟩ := hf.ex
  obtain ⟨t, ht, r⟩ := ha
  refine ⟨_, pe_makeS hM ok hr hg hm hb (fun sg => L2N.passAt tk sg) ht hdb he hpl, fun Hs H rh sg et m Q s z => ?_⟩
  unfold xCallP at z
  refine r Hs H rh sg et m _ s (Post.step z fun as m1 vs Hs1 H1 rh1 x1 s1 r1 p1 => ?_)
  by_cases hl : as.length = n
  · rw [if_pos hl] at p1
    exact fun x dx hx hdx hne => postN_of s1 r1 (by rw [r1.length, hl]) p1 x dx hx hdx hne
  · rw [if_neg hl] at p1
    exact p1.elim
theorem se_newK (hf : NewOk X.prog X.w X.K X.mg X.base k c n ks F) (hr : Room (k + 1) X.A) (tk : L2N.Takes X W) (hg : Gl X c) (ha : SKw X W kws g) (hall : (backToKw pos (keywordEach kws X.env)).all (·.1.isSome) = true := by rfl) (hks : (backToKw pos (keywordEach kws X.env)).filterMap (·.1) = ks := by rfl) (hdb : (c == ("__debug__" : Str)) = false := by decide)
    (hpl : ((backTo pos (starEach [] X.env)).any (·.1) || (backToKw pos (keywordEach kws X.env)).any (·.1.isNone)) = false := by rfl) : SE X W (.Call (.Name c p) [] kws pos) (xCallP n F g) := by
  obtain ⟨f, fd, ps, hm, hM, _, hb, hl', ok⟩ := hf.ex
  obtain ⟨t, ht, r⟩ := ha
  refine ⟨_, pe_makeKS hM ok hr hg hm hb (fun sg => L2N.passAt tk sg) ht hall hks hdb hpl, fun Hs H rh sg et m Q s z => ?_⟩
  unfold xCallP at z
  refine r Hs H rh sg et m _ s (Post.step z fun as m1 vs Hs1 H1 rh1 x1 s1 r1 p1 => ?_)
  by_cases hl : as.length = n
  · rw [if_pos hl] at p1
    exact ⟨by rw [r1.length, hl, hl'], fun x dx hx hdx hne => postN_of s1 r1 (by rw [r1.length, hl]) p1 x dx hx hdx hne⟩
  · rw [if_neg hl] at p1
    exact p1.elim
end
end DL
set_option maxHeartbeats 4000000
namespace DL
open PySem PySem.Spec PyProof.Rows L2
/-! ## Instances: fields, properties, len, == -/
@[simp] def fldA (m : Mu) (c f : Str) : Va → Option Va
  | .d (.obj c' fs) => if c' = c then (fs.lookup f).map .d else none
  | .l n => (match m[n]? with
    | some (some (.obj c' fs)) => if c' = c then fs.lookup f else none
    | _ => none)
  | _ => none
section
variable {K : PySem.W.Frag} {Hs H : Hp} {rh : List Addr} {m : Mu}
theorem repF_get {f : Str} : ∀ {fs : List (Str × D)} {vs : List (Str × V)} {d : D}, RepF K Hs fs vs → fs.lookup f = some d → ∃ v, vs.lookup f = some v ∧ Rep K Hs d v
  | [], vs, d, h, e => by cases e
  | (x, d0) :: fs, vs, d, h, e => by
    simp only [RepF] at h
    obtain ⟨v, r, rfl, h1, h2⟩ := h
    by_cases q : f = x
    · subst q
      simp only [List.lookup, beq_self_eq_true] at e ⊢
      cases e
      exact ⟨v, rfl, h1⟩
    · have q' : (f == x) = false := by simpa using q
      simp only [List.lookup, q'] at e ⊢
      exact repF_get h2 e
theorem repAF_get {f : Str} : ∀ {fs : List (Str × Va)} {vs : List (Str × V)} {d : Va}, RepAF K Hs rh fs vs → fs.lookup f = some d → ∃ v, vs.lookup f = some v ∧ RepA K Hs rh d v
  | [], vs, d, h, e => by cases e
  | (x, d0) :: fs, vs, d, h, e => by
    obtain ⟨v, r, rfl, h1, h2⟩ := h
    by_cases q : f = x
    · subst q
      simp only [List.lookup, beq_self_eq_true] at e ⊢
      cases e
      exact ⟨v, rfl, h1⟩
    · have q' : (f == x) = false := by simpa using q
      simp only [List.lookup, q'] at e ⊢
      exact repAF_get h2 e
theorem repAF_len : ∀ {fs : List (Str × Va)} {vs : List (Str × V)}, RepAF K Hs rh fs vs → vs.length = fs.length
  | [], vs, h => by rw [show vs = [] from h]; rfl
  | (x, d0) :: fs, vs, h => by
    obtain ⟨v, r, rfl, h1, h2⟩ := h
    rw [List.length_cons, List.length_cons, repAF_len h2]
@[simp] def putA (f : Str) (y : Va) : List (Str × Va) → List (Str × Va)
  | [] => [(f, y)]
  | (g, x) :: r => if g = f then (g, y) :: r else (g, x) :: putA f y r
theorem repAF_put {f : Str} {y : Va} {u : V} (hy : RepA K Hs rh y u) : ∀ {fs : List (Str × Va)} {vs : List (Str × V)}, RepAF K Hs rh fs vs → RepAF K Hs rh (putA f y fs) (putF f u vs)
  | [], vs, h => by
    rw [show vs = [] from h]
    exact ⟨u, [], rfl, hy, rfl⟩
  | (x, d0) :: fs, vs, h => by
    obtain ⟨v, r, rfl, h1, h2⟩ := h
    unfold putA putF
    by_cases q : x = f
    · rw [if_pos q, if_pos q]
      exact ⟨u, r, rfl, hy, h2⟩
    · rw [if_neg q, if_neg q]
      exact ⟨v, _, rfl, h1, repAF_put hy h2⟩
theorem fldA_rd (s : SC K Hs H rh m) {x y : Va} {v : V} {c f : Str} (r : RepA K Hs rh x v) (e : fldA m c f x = some y) : ∃ a dx vs u, v = .ref a ∧ H a = some (.ins (cA K c) dx vs) ∧ vs.lookup f = some u ∧ RepA K Hs rh y u := by
  cases x with
  | l n =>
    simp only [fldA] at e
    split at e
    · rename_i c' fs q
      by_cases h : c' = c
      · rw [if_pos h] at e
        subst h
        obtain ⟨a, e1, rfl⟩ := r
        obtain ⟨a', o, e2, e3, e4, dx, vs, rfl, e5⟩ := s.cell n _ q
        rw [e1] at e2
        cases e2
        obtain ⟨u, h1, h2⟩ := repAF_get e5 e
        exact ⟨a, dx, vs, u, rfl, e4, h1, h2⟩
      · rw [if_neg h] at e; cases e
    · cases e
  | d x =>
    cases x with
    | obj c' fs =>
      simp only [fldA] at e
      by_cases h : c' = c
      · rw [if_pos h] at e
        subst h
        have r' : Rep K Hs (.obj c' fs) v := r
        simp only [Rep] at r'
        obtain ⟨a, dx, vs, rfl, e2, e3⟩ := r'
        cases q : fs.lookup f with
        | none => rw [q] at e; cases e
        | some d =>
          rw [q] at e
          cases e
          obtain ⟨u, h1, h2⟩ := repF_get e3 q
          exact ⟨a, dx, vs, u, rfl, s.same _ _ e2, h1, h2⟩
      · rw [if_neg h] at e; cases e
    | _ => cases e
end
/-- the class keeps its fields as Python keeps them -/
structure FldK (K : PySem.W.Frag) (c : Str) (fs : List Str) : Prop where
  cls : Cls K (cA K c)
  no : ∀ f ∈ fs, NoAttr K (cA K c) f
def fldB (K : PySem.W.Frag) (c : Str) (fs : List Str) : Bool := objB K c && fs.all fun f => He.eqO (PySem.W.findIn K (.ref (cA K c)) f) (some none)
theorem fldB_ok {K : PySem.W.Frag} {c : Str} {fs : List Str} (h : fldB K c fs = true) : FldK K c fs := by
  obtain ⟨h1, h2⟩ := He.ba h
  exact ⟨(objB_ok h1).1, fun f hf => He.eqO_ok (List.all_eq_true.mp h2 f hf)⟩
def xFld (c f : Str) (g : Env → Mu → R Va) : Env → Mu → R Va := fun et m => (g et m).bind fun x m => match fldA m c f x with
  | some y => .ok y m
  | none => .stuck
def zFld (c f : Str) (fo fv : Env → Mu → R Va) : Env → Mu → RS := fun e m => (fv e m).toS e fun y m => (fo e m).toS e fun x m => match x with
  | .l n => (match m[n]? with
    | some (some (.obj c' fs)) => if c' = c ∧ fs.length < 1000 then .nx e (m.set n (some (.obj c (putA f y fs)))) else .stuck
    | _ => .stuck)
  | _ => .stuck
section
variable {X : Cx} {W : WX} {e o value : Expr} {pos pos' : Pos} {c f : Str} {fs : List Str} {g fo fv : Env → Mu → R Va}
theorem se_fld (k : FldK X.K c fs) (hf : f ∈ fs) (he : SE X W e g) (hb : attributeBase e f X.env (eval e X.env) = eval e X.env := by rfl) : SE X W (.Attribute e f pos) (xFld c f g) := by
  obtain ⟨t, h, r⟩ := he
  refine ⟨_, pe_fld h hb, fun Hs H rh sg et m Q s p => ?_⟩
  unfold xFld at p
  refine r Hs H rh sg et m _ s (Post.step p fun x m1 v Hs1 H1 rh1 x1 s1 r1 p1 => ?_)
  split at p1
  · rename_i y q
    obtain ⟨a, dx, vs, u, rfl, h1, h2, h3⟩ := fldA_rd s1.sc r1 q
    exact ⟨a, _, dx, vs, u, rfl, h1, k.cls, k.no f hf, h2, Post.ok_ p1 .refl s1 h3⟩
  · exact p1.elim
theorem ss_fld (k : FldK X.K c fs) (hf : f ∈ fs) (ho : SE X W o fo) (hv : SE X W value fv) (hs : swapsWith value (some (.Attribute o f pos')) pos.line X.env = pure false := by rfl) : SS X W (.Assign [.Attribute o f pos'] value pos) (zFld c f fo fv) := by
  obtain ⟨to, h, ro⟩ := ho
  obtain ⟨tv, h', rv⟩ := hv
  refine ⟨_, ps_fld h h' hs, fun Hs H rh sg et m Dn s z => ?_⟩
  unfold zFld at z
  refine rv Hs H rh sg et m _ s (Post.toS s z fun y m1 u Hs1 H1 rh1 x1 s1 r1 p1 => ?_)
  refine ro Hs1 H1 rh1 sg et m1 _ s1 (Post.toS s1 p1 fun x m2 w Hs2 H2 rh2 x2 s2 r2 p2 => ?_)
  cases x with
  | d x => exact p2.elim
  | l n =>
    dsimp only at p2
    cases q : m2[n]? with
    | none => rw [q] at p2; exact p2.elim
    | some oc =>
      rw [q] at p2
      cases oc with
      | none => exact p2.elim
      | some ce =>
        cases ce with
        | lst _ => exact p2.elim
        | dct _ => exact p2.elim
        | dtn _ _ => exact p2.elim
        | obj c' cfs =>
          dsimp only at p2
          by_cases hc : c' = c ∧ cfs.length < 1000
          · rw [if_pos hc] at p2
            obtain ⟨hc1, hc2⟩ := hc
            subst hc1
            obtain ⟨a, e1, rfl⟩ := r2
            obtain ⟨a', o', e2, e3, e4, dx, vs, rfl, e5⟩ := s2.sc.cell n _ q
            rw [e1] at e2
            cases e2
            obtain ⟨w1, w2⟩ := s2.sc.write (c := .obj c' (putA f y cfs)) (o := .ins (cA X.K c') dx (putF f u vs)) q e1 ⟨dx, _, rfl, repAF_put (r1.ext x2) e5⟩
            refine ⟨a, _, dx, vs, rfl, e4, k.cls, k.no f hf, by rw [repAF_len e5]; exact hc2, ?_⟩
            exact p2 sg _ _ _ w2 (s2.ext w2 w1)
          · rw [if_neg hc] at p2; exact p2.elim
end
/-! ### properties: c.f gives the field h -/
structure PropK (P : Program) (w : World) (K : PySem.W.Frag) (mg : Str → Option Value) (base : Heap) (k : Nat) (c f h : Str) : Prop where
  ex : ∃ p g fd ps, PropOf K (cA K c) f p g ∧ Binds K fd ps [] ∧ FnOk P w K mg base (L2N.CX P w) k g fd ps (getSp (cA K c) h)
  cls : Cls K (cA K c)
section
variable {X : Cx} {W : WX} {e : Expr} {pos : Pos} {c f h : Str} {k : Nat} {g : Env → Mu → R Va}
theorem se_prop (hp : PropK X.prog X.w X.K X.mg X.base k c f h) (hr : Room (k + 1) X.A) (he : SE X W e g) (hb : attributeBase e f X.env (eval e X.env) = eval e X.env := by rfl) : SE X W (.Attribute e f pos) (xFld c h g) := by
  obtain ⟨t, ht, r⟩ := he
  obtain ⟨p, gt, fd, ps, hP, hbd, F⟩ := hp.ex
  refine ⟨_, pe_prop (dvs := []) (ds := []) (E := E0) ht hp.cls hP F hr hbd .nil passN hb, fun Hs H rh sg et m Q s p => ?_⟩
  unfold xFld at p
  refine r Hs H rh sg et m _ s (Post.step p fun x m1 v Hs1 H1 rh1 x1 s1 r1 p1 => ?_)
  split at p1
  · rename_i y q
    obtain ⟨a, dx, vs, u, rfl, h1, h2, h3⟩ := fldA_rd s1.sc r1 q
    exact ⟨a, dx, vs, rfl, h1, a, dx, vs, u, rfl, h1, h2, Post.ok_ p1 .refl s1 h3⟩
  · exact p1.elim
end
/-! ### methods that are promised purely -/
structure MtP (P : Program) (w : World) (K : PySem.W.Frag) (mg : Str → Option Value) (base : Heap) (k : Nat) (c m : Str) (n : Nat) (F : List D → R0) : Prop where
  ex : ∃ f fd ps, Meth K (cA K c) m f ∧ Binds K fd ps [] ∧ FnOk P w K mg base (L2N.CX P w) k f fd ps (SpP K n F)
section
variable {X : Cx}
/-- len(x) of an own class -/
def rLenO (K : PySem.W.Frag) (c : Str) (F : List D → R0) : List V → Hp → VK → Prop := fun xs H Q => ∃ a dx vs, xs = [.ref a] ∧ H a = some (.ins (cA K c) dx vs) ∧ SpP K 1 F [.ref a] H (fun v H' => ∃ n : Int, v = .int n ∧ 0 ≤ n ∧ n < 2 ^ 63 ∧ Q (.int n) H') E0
theorem call_lenO {c : Str} {k : Nat} {F : List D → R0} (M : MtP X.prog X.w X.K X.mg X.base k c "__len__" 1 F) (hr : Room (k + 1) X.A) : CallR X (.builtin "len") (rLenO X.K c F) := by
  intro pins s σ H xs us Q I r h
  obtain ⟨a, dx, vs, rfl, ea, hs⟩ := h
  obtain ⟨f, fd, ps, hm, hb, ok⟩ := M.ex
  cases r with
  | cons r1 rn =>
    cases rn
    rename_i u
    obtain rfl : u = Value.ref a := r1
    obtain ⟨mA, O, _, _, _, _⟩ := ins_get I.hok ea
    obtain ⟨od, J, _⟩ := O.look
    obtain ⟨m, Fr⟩ := I.fr
    have b := hb s [.ref a] I.kIn (by have := ok.len _ _ _ _ hs; simpa using this)
    refine PySem.W.len_K Fr I.ok.mod.kin J hm.at_ hm.fn (wpAny_call (codeAny_mono (ok.run X.A.in1 X.stack s H ⟨[.ref a], []⟩ [.ref a] [.ref a] _ E0 hr.in1 I.env0.in1 b (.cons rfl .nil) hs) fun r s' hq => ?_))
    cases r with
    | error er => exact passN pins σ H s er s' I hq
    | ok fl =>
      cases fl with
      | ret u =>
        obtain ⟨v, H', I3, rv, n, rfl, h0, h1, q3⟩ := I.after hq
        obtain ⟨t, rfl⟩ := (show ∃ t, u = Value.int n t from rv)
        exact ⟨⟨h0, h1⟩, .int n, H', I3.tok _, ⟨_, rfl⟩, q3⟩
      | next => exact False.elim hq
      | brk => exact False.elim hq
      | cont => exact False.elim hq
@[simp] def oLenO (c : Str) (F : List D → R0) : List Va → Mu → R Va := fun as m => match as with
  | [.d (.obj c' fs)] => if c' = c then (match F [.obj c' fs] with
    | .ok (.int n) => if 0 ≤ n ∧ n < 2 ^ 63 then .ok (.d (.int n)) m else .stuck
    | _ => .stuck) else .stuck
  | _ => .stuck
theorem cs_lenO {c : Str} {k : Nat} {F : List D → R0} (M : MtP X.prog X.w X.K X.mg X.base k c "__len__" 1 F) (hr : Room (k + 1) X.A) : CalS X (.builtin "len") (oLenO c F) := by
  refine ⟨_, call_lenO M hr, fun W Hs H rh sg et m as vs Q s r p => ?_⟩
  unfold oLenO at p
  split at p
  · rename_i c' fs
    by_cases hc : c' = c
    · rw [if_pos hc] at p
      subst hc
      obtain ⟨v, rfl, r1⟩ := as1 r
      have r' : Rep X.K Hs (.obj c' fs) v := r1
      have r2 := r'
      simp only [Rep] at r2
      obtain ⟨a, dx, ws, rfl, e2, e3⟩ := r2
      refine ⟨a, dx, ws, rfl, s.sc.same _ _ e2, rfl, Hs, [.obj c' fs], s.sc.same, Reps.one r', ?_⟩
      split at p
      · rename_i n q
        rw [q]
        by_cases hn : 0 ≤ n ∧ n < 2 ^ 63
        · rw [if_pos hn] at p
          intro v Hs' H' h1 h2 h3 h4 hv
          obtain ⟨sc, xx⟩ := s.sc.frame h1 h2 h3 h4
          exact ⟨n, rep_int hv, hn.1, hn.2, p (.int n) Hs' H' rh xx (s.ext xx sc) mk_int⟩
        · rw [if_neg hn] at p; exact p.elim
      · exact p.elim
    · rw [if_neg hc] at p; exact p.elim
  · exact p.elim
/-! ### x == y, x of an own class -/
def nfB (K : PySem.W.Frag) (c : Str) (cs : List Str) : Bool := (bTys.all fun T => PySem.W.notFirst K (cA K c) (.type T)) && cs.all fun d => PySem.W.notFirst K (cA K c) (.ref (cA K d))
theorem nf_of {K : PySem.W.Frag} {c : Str} {cs : List Str} (h : nfB K c cs = true) {k : Kd} (hk : ∀ n, k = .b n → n ∈ bTys) (hc : ∀ d, k = .o d → d ∈ cs) : PySem.W.notFirst K (cA K c) (kdV K k) = true := by
  obtain ⟨h1, h2⟩ := He.ba h
  cases k with
  | b n => exact List.all_eq_true.mp h1 n (hk n rfl)
  | o d => exact List.all_eq_true.mp h2 d (hc d rfl)
def rEqO (K : PySem.W.Frag) (c : Str) (cs : List Str) (F : List D → R0) : R2 := fun x y H Q => ∃ a dx vs t, x = .ref a ∧ H a = some (.ins (cA K c) dx vs) ∧ TyX K H y t ∧ PySem.W.notFirst K (cA K c) t = true ∧ SpP K 2 F [x, y] H (fun v H' => ∃ b, v = .bl b ∧ Q (.bl b) H') E0
theorem op_eqO {c : Str} {cs : List Str} {k : Nat} {F : List D → R0} (M : MtP X.prog X.w X.K X.mg X.base k c "__eq__" 2 F) (hr : Room k X.A) : OpR X (compareOp .Eq) (rEqO X.K c cs F) := by
  intro pins s σ H x y v u Q I rx ry h
  obtain ⟨a, dx, vs, t, rfl, ea, ty, nf, hs⟩ := h
  obtain ⟨f, fd, ps, hm, hb, ok⟩ := M.ex
  obtain rfl : v = Value.ref a := rx
  obtain ⟨mA, O, _, _, _, _⟩ := ins_get I.hok ea
  obtain ⟨od, J, _⟩ := O.look
  obtain ⟨m, Fr⟩ := I.fr
  obtain ⟨P, Z, p, hx⟩ := kit_of I ry ty
  have hu : X.A.units < cLine := by have := hr.un; omega
  refine PySem.W.cmp_K (op := .Eq) hu Fr I.ok.mod.kin J (Z.ty _ _ I.kIn p) nf hm.at_ hm.fn (wpAny_mono (run_fn (us := [.ref a, u]) (vs := [.ref a, y]) ok hr hb .nil passN I (.cons rfl (.cons ry .nil)) hs) (fun r s' hq => ?_) fun _ _ z => z)
  obtain ⟨v, H', I3, rv, b, rfl, q3⟩ := hq
  cases (show r = Value.bool b from rv)
  exact ⟨.bl b, H', I3, rfl, q3⟩
@[simp] def oEqO (c : Str) (cs : List Str) (F : List D → R0) : Va → Va → Mu → R Va := fun x y m => match x, y with
  | .d (.obj c' fs), .d dy => (match kdA m (.d dy) with
    | some k => if c' = c ∧ okK cs k = true then (match F [.obj c' fs, dy] with
      | .ok (.bl b) => .ok (.d (.bl b)) m
      | _ => .stuck) else .stuck
    | none => .stuck)
  | _, _ => .stuck
theorem os_eqO {c : Str} {cs : List Str} {k : Nat} {F : List D → R0} (I : IsiK X.K cs) (nb : nfB X.K c cs = true) (M : MtP X.prog X.w X.K X.mg X.base k c "__eq__" 2 F) (hr : Room k X.A) : OpS X (compareOp .Eq) (oEqO c cs F) := by
  refine ⟨_, op_eqO (cs := cs) M hr, fun W Hs H rh sg et m x y u v Q s r1 r2 p => ?_⟩
  unfold oEqO at p
  split at p
  · rename_i c' fs dy
    cases qk : kdA m (.d dy) with
    | none => rw [qk] at p; exact p.elim
    | some kd =>
      rw [qk] at p
      dsimp only at p
      by_cases hc : c' = c ∧ okK cs kd = true
      · rw [if_pos hc] at p
        obtain ⟨hc1, hc2⟩ := hc
        subst hc1
        have r' : Rep X.K Hs (.obj c' fs) u := r1
        have r3 := r'
        simp only [Rep] at r3
        obtain ⟨a, dx, ws, rfl, e2, e3⟩ := r3
        have hin : ∀ d, kd = .o d → cs.contains d = true := fun d hd => by subst hd; exact hc2
        refine ⟨a, dx, ws, kdV X.K kd, rfl, s.sc.same _ _ e2, kd_ty I s.sc hin r2 qk, nf_of nb (kd_b qk) (fun d hd => by simpa using hin d hd), rfl, Hs, [.obj c' fs, dy], s.sc.same, reps_cons.mpr ⟨r', Reps.one r2⟩, ?_⟩
        split at p
        · rename_i b q
          rw [q]
          intro v Hs' H' h1 h2 h3 h4 hv
          obtain ⟨sc, xx⟩ := s.sc.frame h1 h2 h3 h4
          exact ⟨b, rep_bl hv, p (.bl b) Hs' H' rh xx (s.ext xx sc) mk_bl⟩
        · exact p.elim
      · rw [if_neg hc] at p; exact p.elim
  · exact p.elim
end
end DL
set_option maxHeartbeats 4000000
namespace DL
open PySem PySem.Spec PyProof.Rows L2
/-! ## More expressions -/
section
variable {X : Cx} {W : WX} {e a : Expr} {es : List Expr} {p pos : Pos} {f : Env → Mu → R Va} {g : Env → Mu → R (List Va)}
/-- -n -/
def xNeg (f : Env → Mu → R Va) : Env → Mu → R Va := fun et m => (f et m).bind fun x m => match x with
  | .d (.int i) => .ok (.d (.int (-i))) m
  | _ => .stuck
theorem se_neg (h : SE X W a f) : SE X W (.UnaryOp .USub a pos) (xNeg f) := by
  obtain ⟨t, ht, r⟩ := h
  refine ⟨_, pe_un un_neg ht, fun Hs H rh sg et m Q s z => ?_⟩
  unfold xNeg at z
  refine r Hs H rh sg et m _ s (Post.step z fun x m1 v Hs1 H1 rh1 x1 s1 r1 p1 => ?_)
  split at p1
  · rename_i i
    exact ⟨i, va_int r1, Post.ok_ p1 .refl s1 mk_int⟩
  · exact p1.elim
/-- a cell of a list is given up: its list stays as it is -/
@[simp] def mvA (x : Va) (m : Mu) : R Va := match x with
  | .l n => (match m[n]? with
    | some (some (.lst ds)) => .ok (.d (.lst ds)) (m.set n none)
    | _ => .stuck)
  | .d x => .ok (.d x) m
@[simp] def xMv (f : Env → Mu → R Va) : Env → Mu → R Va := fun et m => (f et m).bind mvA
theorem SC.freeze {K : PySem.W.Frag} {Hs H : Hp} {rh : List Addr} {m : Mu} (s : SC K Hs H rh m) {n : Nat} {ds : List D} (e : m[n]? = some (some (.lst ds))) :
    ∃ a Hs', rh[n]? = some a ∧ SC K Hs' H rh (m.set n none) ∧ Ext Hs H rh Hs' H rh ∧ Rep K Hs' (.lst ds) (.ref a) := by
  obtain ⟨a, o, e1, e2, e3, vs, rfl, e4⟩ := s.cell n _ e
  have sm : Same Hs (upd Hs a (.lst vs)) := fun b u q => by rw [upd_ne (ne_of_none q e2)]; exact q
  have nl : n < m.length := (List.getElem?_eq_some_iff.mp e).1
  refine ⟨a, upd Hs a (.lst vs), e1, ⟨fun b u q => ?_, by rw [List.length_set]; exact s.mlen, fun i c q => ?_, s.nd, s.old⟩, ⟨sm, List.prefix_refl _, fun b o q _ => q, fun b q => q, fun b q => .inl q, fun b q => ?_⟩, ?_⟩
  · by_cases h : b = a
    · subst h
      rw [upd_same] at q
      cases q
      exact e3
    · rw [upd_ne h] at q
      exact s.same b u q
  · by_cases hi : n = i
    · subst hi
      rw [List.getElem?_set_self nl] at q
      cases q
    · rw [List.getElem?_set_ne hi] at q
      obtain ⟨b, o, q1, q2, q3, q4⟩ := s.cell i c q
      have ne : b ≠ a := fun z => hi (by
        subst z
        obtain ⟨h1, w1⟩ := List.getElem?_eq_some_iff.mp e1
        obtain ⟨h2, w2⟩ := List.getElem?_eq_some_iff.mp q1
        exact (List.getElem_inj s.nd).mp (w1.trans w2.symm))
      exact ⟨b, o, q1, by rw [upd_ne ne]; exact q2, q3, q4.mono sm (List.prefix_refl _)⟩
  · by_cases h : b = a
    · exact .inr (.inr (by rw [h]; exact List.mem_of_getElem? e1))
    · rw [upd_ne h] at q
      exact .inl q
  · simp only [Rep]
    exact ⟨a, vs, rfl, upd_same, e4.mono sm⟩
theorem se_mv (h : SE X W a f) : SE X W a (xMv f) := by
  obtain ⟨t, ht, r⟩ := h
  refine ⟨t, ht, fun Hs H rh sg et m Q s z => r Hs H rh sg et m Q s ?_⟩
  unfold xMv at z
  refine Post.stepS z fun x m1 v Hs1 H1 rh1 x1 s1 r1 p1 => ?_
  cases x with
  | d x => exact p1 v Hs1 H1 rh1 x1 s1 r1
  | l n =>
    unfold mvA at p1
    dsimp only at p1
    split at p1
    · rename_i ds q
      obtain ⟨b, Hs2, e1, sc2, x2, rp⟩ := s1.sc.freeze q
      obtain ⟨b', e2, rfl⟩ := r1
      rw [e1] at e2
      cases e2
      exact p1 (.ref b) Hs2 H1 rh1 (x1.trans x2) (s1.ext x2 sc2) rp
    · exact p1.elim
/-- *e among arguments, in a display: a tuple -/
def xStar (f : Env → Mu → R Va) (g : Env → Mu → R (List Va)) : Env → Mu → R (List Va) := fun et m => (f et m).bind fun x m => match x with
  | .d (.tup ds) => (g et m).bind fun as m => .ok (ds.map .d ++ as) m
  | _ => .stuck
theorem repAs_append {K : PySem.W.Frag} {Hs : Hp} {rh : List Addr} : ∀ {as bs : List Va} {vs us : List V}, RepAs K Hs rh as vs → RepAs K Hs rh bs us → RepAs K Hs rh (as ++ bs) (vs ++ us)
  | [], bs, vs, us, h, h' => by rw [show vs = [] from h]; exact h'
  | d :: ds, bs, vs, us, h, h' => by
    obtain ⟨v, r, rfl, h1, h2⟩ := h
    exact ⟨v, r ++ us, rfl, h1, repAs_append h2 h'⟩
theorem sa_star (hf : SE X W e f) (hg : SA X W es g) (hs : starEach (.Starred e p :: es) X.env = (true, eval e X.env) :: starEach es X.env := by rfl) : SA X W (.Starred e p :: es) (xStar f g) := by
  obtain ⟨t, ht, r⟩ := hf
  obtain ⟨t', ht', r'⟩ := hg
  refine ⟨_, StX.pa_star ht ht' hs, fun Hs H rh sg et m Q s z => ?_⟩
  unfold xStar at z
  refine r Hs H rh sg et m _ s (Post.step z fun x m1 v Hs1 H1 rh1 x1 s1 r1 p1 => ?_)
  split at p1
  · rename_i ds
    have rr : Rep X.K Hs1 (.tup ds) v := r1
    simp only [Rep] at rr
    obtain ⟨a, vs, rfl, e2, e3⟩ := rr
    refine ⟨a, vs, rfl, .inl (Same.seqT s1.sc.same e2), r' Hs1 H1 rh1 sg et m1 _ s1 (Post.step p1 fun as m2 us Hs2 H2 rh2 x2 s2 r2 p2 => ?_)⟩
    exact Post.ok_ p2 .refl s2 (repAs_append (repAs_d (e3.mono x2.sub)) r2)
  · exact p1.elim
end
/-! ### enumerate -/
/-- as Itl, Itt: the item in a new pair -/
def ItE (K : PySem.W.Frag) (q : Hp → List V → Prop) : It :=
  ⟨fun i H => ∃ (xs : List V) (x : V), q H xs ∧ xs[i]? = some x, fun i H v H' => ∃ T x, v = .ref T ∧ H T = none ∧ H' = upd H T (.tup [.int (i : Nat), x]) ∧ ∀ xs, q H xs → xs[i]? = some x, fun i H => ∃ xs : List V, q H xs ∧ xs.length = i⟩
theorem turn_enT {P : Program} {w : World} {K : PySem.W.Frag} {elts : List Expr} {kk : Nat} {tpos : Pos} (a e it : Addr) (hai : a ≠ it) :
    Turn P w K (.Tuple elts kk tpos) (ItE K fun H xs => SqT K H a xs) [e, it] e (fun i h => (∃ old, IsEnum h e it ((i : Nat) : Int) old) ∧ h.IsTupleIter it a i ∧ e ≠ it ∧ e ≠ a) where
  mem := List.mem_cons_self ..
  obj := fun i h st b hb => by
    obtain ⟨⟨old, he⟩, ⟨o, ho, hc, hd⟩, _⟩ := st
    rcases List.mem_cons.mp hb with rfl | hb
    · exact ⟨_, he, fun v q => nomatch q⟩
    · rw [List.mem_singleton.mp hb]
      exact ⟨o, ho, fun v q => by rw [hd] at q; cases q⟩
  keep := fun i h h' st k => let ⟨⟨old, he⟩, hi, hne⟩ := st; ⟨⟨old, k e (List.mem_cons_self ..) _ he⟩, hi.at fun o q => k it (List.mem_cons_of_mem _ (List.mem_singleton.mpr rfl)) o q, hne⟩
  item := by
    intro X hP hw hK hc i pins s σ H E I hf st hg
    subst hP hw hK
    obtain ⟨⟨old, he⟩, hit, hne, hnea⟩ := st
    obtain ⟨xs, x, hq, hx⟩ := hg
    obtain ⟨its, rv, p, hz⟩ := I.tuple hq
    obtain ⟨u, hu, ru⟩ := rv.get hx
    have elt : e < s.heap.objs.size := Heap.lt_size he
    have ilt : it < s.heap.objs.size := let ⟨_, q, _⟩ := hit; Heap.lt_size q
    have D := Draws.tuple (prog := X.prog) (w := X.w) (A := X.A.in1) (I.ok.hd hc) it a hai its.toArray
    have hil : i < its.toArray.size := by simpa using (List.getElem?_eq_some_iff.mp hu).1
    refine wpAny_pyNext_enum_itemC D he ⟨hit, p⟩ hil hne (by simp [hne, hnea]) fun y h' tk hy ho hst hT hsz hk => ?_
    have ey : y = u := by
      have : its[i]? = some y := by simpa using hy
      rw [hu] at this
      exact (Option.some.inj this).symm
    subst ey
    refine ⟨_, rfl, wpAny_letOwnedTupleGo_enum (s := { s with heap := h', toks := tk + 1 }) ho fun h2 he2 sb => ?_⟩
    have hT2 : h2.get? s.heap.objs.size = some { cls := .type "tuple", data := .seq #[.int i tk, y] } := (sb.2 _ (Nat.ne_of_gt elt)).trans hT
    have ob : ObjOk X.prog X.w (upd H s.heap.objs.size (.tup [.int (i : Nat), x])) h2 s.heap.objs.size (.tup [.int (i : Nat), x]) :=
      ⟨by show 2 ≤ sizeLine; rw [sizeLine_eq]; decide, [.int i tk, y], .cons ⟨_, rfl⟩ (.cons ru .nil), ⟨_, hT2, rfl, _, rfl⟩⟩
    have nb : ∀ b ∉ [e, it], b ≠ e ∧ b ≠ it := fun b hb => ⟨fun z => hb (by rw [z]; exact List.mem_cons_self ..), fun z => hb (by rw [z]; exact List.mem_cons_of_mem _ (List.mem_singleton.mpr rfl))⟩
    have I1 := Inv.turnedNew (t' := tk + 1) (ch := [e, it]) I (fun b o hb q => (sb.2 b (nb b hb).1).trans (hk b o (nb b hb).1 (nb b hb).2 q)) hf (Nat.le_refl _) ob
    refine ⟨.ref s.heap.objs.size, _, I1, rfl, ⟨_, x, rfl, I.hok.fresh (Nat.le_refl _), rfl, fun ys hys => by rw [I.tuple_inj hys hq]; exact hx⟩, ⟨⟨y, ?_⟩, hst.1.at fun o q => (sb.2 it (Ne.symm hne)).trans q, hne, hnea⟩, fun b hb => ?_⟩
    · have e1 : ((i + 1 : Nat) : Int) = (i : Int) + 1 := Int.natCast_succ i
      rw [e1]
      exact he2
    · have blt : b < s.heap.objs.size := by
        rcases List.mem_cons.mp hb with rfl | hb
        · exact elt
        · rw [List.mem_singleton.mp hb]
          exact ilt
      rw [upd_ne (Nat.ne_of_lt blt)]
      exact (hf b hb).1
  done := by
    intro X hP hw hK hc i pins s σ H E I hf st hg
    subst hP hw hK
    obtain ⟨⟨old, he⟩, hit, hne, hnea⟩ := st
    obtain ⟨xs, hq, hx⟩ := hg
    obtain ⟨its, rv, p, hz⟩ := I.tuple hq
    obtain ⟨f0, f1, f2, f3, f4, f5⟩ := hf it (List.mem_cons_of_mem _ (List.mem_singleton.mpr rfl))
    have hl := rv.length
    have D := Draws.tuple (prog := X.prog) (w := X.w) (A := X.A.in1) (I.ok.hd hc) it a hai its.toArray
    have hsz : i = its.toArray.size := by rw [List.size_toArray, ← hl, hx]
    subst hsz
    exact wpAny_pyNext_enum_endD D he ⟨hit, p⟩ fun h' eb => ⟨rfl, I.turned (t' := s.toks) (fun b o hb q => eb b o hb q) f0 f1 f3 f4 f5⟩
  self := fun A i s Q E st h => let ⟨⟨_, he⟩, _⟩ := st; wpAny_pyIter_enum he h
set_option maxHeartbeats 8000000 in
theorem meets_en1 {v : Value} {o : Obj} {Hh : Heap → Prop} (B : Begins v o Hh) : Meets (Builtin.«enumerate.__new__» ⟨[.type "enumerate", v], []⟩) (fun _ R s => Hh s.heap ∧
    R (.ok (.ret (.ref (s.heap.push o).objs.size))) { s with heap := (s.heap.push o).push { cls := .type "enumerate", data := .fields #[.none, .bool false, .ref s.heap.objs.size, rawInt 0, .none, .none] } }) := by
  refine .of_wp fun prog w A R s ⟨hs, hR⟩ => ?_
  obtain ⟨hp, gg, dr, tt, oo⟩ := s
  have hsub := sub_enumerate
  have walk : ∀ {A2 : Around} {E2 Q2 : Value → Shared → Prop}, Q2 (.ref hp.objs.size) ⟨hp.push o, gg, dr, tt, oo⟩ → wpAny (model prog w) A2 (pyIter v) Q2 E2 ⟨hp, gg, dr, tt, oo⟩ := fun z => B.iter prog w _ _ ⟨hp, gg, dr, tt, oo⟩ _ hs z
  wp_walk using walk
  refine wpAny_stack_any fun st => wpAny_pure ?_
  split
  · rename_i cl _ _ _ _ _
    by_cases hc : (cl == Value.type "enumerate") = true
    · rw [hc]
      wp_walk using walk
      exact ⟨_, rfl, hR⟩
    · rw [Bool.eq_false_iff.mpr hc]
      wp_walk using walk
      exact ⟨_, rfl, hR⟩
  · wp_walk using walk
    exact ⟨_, rfl, hR⟩
theorem call_en1 {prog : Program} {w : World} {A : Around} {E : Value → Shared → Prop} {s : Shared} {v : Value} {o : Obj} {Hh : Heap → Prop} {Q : Value → Shared → Prop} (B : Begins v o Hh) (hs : Hh s.heap)
    (hq : ∀ h', IsEnum h' (s.heap.objs.size + 1) s.heap.objs.size 0 .none → h'.get? s.heap.objs.size = some o → (∀ b u, s.heap.get? b = some u → h'.get? b = some u) → Q (.ref (s.heap.objs.size + 1)) { s with heap := h' }) :
    wpAny (model prog w) A (call (.type "enumerate") [v]) Q E s := by
  refine callType_new F.called_enumerate (by decide) (F.typeCall_enumerate_1 _) (F.newCall_enumerate_1 _) (fun ob => F.args_object_init_2 ob _) F.entry_enumerate_new (meets_en1 B) ⟨hs, ?_⟩
  have sz : (s.heap.push o).objs.size = s.heap.objs.size + 1 := Heap.size_push _ _
  have e1 := Heap.get?_push_size (s.heap.push o) (o := { cls := .type "enumerate", data := .fields #[.none, .bool false, .ref s.heap.objs.size, rawInt 0, .none, .none] }) rfl
  rw [sz] at e1
  show _ ∧ _
  rw [sz]
  exact ⟨⟨_, e1, rfl⟩, hq _ e1 (Heap.get?_push_of_some _ (Heap.get?_push_size _ B.free)) fun b u z => Heap.get?_push_of_some _ (Heap.get?_push_of_some _ z)⟩
section
variable {X : Cx} {W : WX} {e : Expr} {p pos tpos : Pos} {elts : List Expr} {kk : Nat} {f : Env → Mu → R Va} {fa : Env → Mu → R (List Va)}
def iEnA (K : PySem.W.Frag) (ta : TA) : TI := fun σ H R => ta σ H fun vs H1 => ∃ a xs, vs = [.ref a] ∧ ((SqL K H1 a xs ∧ R (Ite K a) H1) ∨ (SqT K H1 a xs ∧ R (ItE K fun H ys => SqT K H a ys) H1))
theorem pi_enA {ta : TA} (hg : Gl X "enumerate") (hm : X.mg "enumerate" = none) (ha : PA X [e] ta) (hs : starEach [e] X.env = [(false, eval e X.env)] := by rfl) :
    PI X (.Tuple elts kk tpos) (.Call (.Name "enumerate" p) [e] [] pos) (iEnA X.K ta) := by
  refine ⟨fun pins s σ H R I h => ?_⟩
  refine Call_ (ld_blt I hg hm boot_enumerate (PyProof.Rows.callWith_type1 (thn (ha.run pos pins s σ H _ I h) fun us s1 z => ?_) hs rfl))
  obtain ⟨vs, H1, I1, r1, a, xs, rfl, z⟩ := z
  cases r1 with
  | cons ra rn =>
    cases rn
    cases ra
    have fr : ∀ {b : Addr}, b ∈ [s1.heap.objs.size + 1, s1.heap.objs.size] → FpOk X pins H1 b := fun {b} hb => by
      have hb2 : b = s1.heap.objs.size + 1 ∨ b = s1.heap.objs.size := by simpa using hb
      have le : s1.heap.objs.size ≤ b := by
        rcases hb2 with q | q
        · rw [q]; exact Nat.le_succ _
        · rw [q]; exact Nat.le_refl _
      exact I1.fpOk le (I1.hok.fresh le)
    rcases z with ⟨hq, z⟩ | ⟨hq, z⟩
    · obtain ⟨its, rv, pl, _⟩ := I1.list hq
      exact call_enumerate_list pl.isList fun h' he hit _ hk => wpAny_pyIter_enum he ⟨_, _, _, _, H1, rfl, I1.kept (t' := s1.toks) hk, turn_enum a _ _, ⟨⟨.none, he⟩, hit, Nat.succ_ne_self _⟩, fun b hb => fr hb, z⟩
    · obtain ⟨its, rv, pl, _⟩ := I1.tuple hq
      have alt : a < s1.heap.objs.size := let ⟨_, q, _⟩ := pl; Heap.lt_size q
      exact call_en1 (begins_tuple a its.toArray) pl fun h' he hit hk => wpAny_pyIter_enum he ⟨_, _, _, _, H1, rfl, I1.kept (t' := s1.toks) hk, turn_enT a _ _ (Nat.ne_of_lt alt), ⟨⟨.none, he⟩, ⟨_, hit, rfl, rfl⟩, Nat.succ_ne_self _, Nat.ne_of_gt (Nat.lt_succ_of_lt alt)⟩, fun b hb => fr hb, z⟩
/-- enumerate: pairs -/
def enD (ds : List D) : List Va := (ds.zipIdx).map fun q => .d (.tup [.int (q.2 : Nat), q.1])
theorem enD_get {ds : List D} {i : Nat} (h : i < ds.length) : (enD ds)[i]? = some (.d (.tup [.int (i : Nat), ds[i]])) := by
  unfold enD
  rw [List.getElem?_map, List.getElem?_zipIdx, List.getElem?_eq_getElem h]
  simp
theorem enD_len {ds : List D} : (enD ds).length = ds.length := by
  unfold enD
  rw [List.length_map, List.length_zipIdx]
theorem gv_en {K : PySem.W.Frag} {J : It} {vs : List V} {ds : List D} {Hs0 : Hp} {rh0 : List Addr} {q : Hp → List V → Prop} (h : Reps K Hs0 ds vs) (hq : ∀ Hs H rh m, SC K Hs H rh m → Same Hs0 Hs → q H vs)
    (go : ∀ i H, i < vs.length → q H vs → J.go i H) (yl : ∀ i H v H', q H vs → J.yld i H v H' → ∃ T x, v = .ref T ∧ H T = none ∧ H' = upd H T (.tup [.int (i : Nat), x]) ∧ vs[i]? = some x) (st : ∀ H, q H vs → J.stop vs.length H) :
    Gv K J (enD ds) Hs0 rh0 := fun Hs H rh m sc sm pf i => by
  have hl := h.length
  have q1 := hq Hs H rh m sc sm
  refine ⟨fun hi => ?_, fun hi => ?_⟩
  · rw [enD_len] at hi
    have hv : i < vs.length := by rw [hl]; exact hi
    refine ⟨go i H hv q1, fun x H' hy => ?_⟩
    obtain ⟨T, y, rfl, hT, rfl, e⟩ := yl i H x H' q1 hy
    obtain ⟨sc2, x2, _⟩ := sc.laid (o := .tup [.int (i : Nat), y]) hT
    refine ⟨_, sc2, x2, fun d hd => ?_⟩
    rw [enD_get hi] at hd
    cases hd
    obtain ⟨d', e1, e2⟩ := h.get' e
    rw [List.getElem?_eq_getElem hi] at e1
    cases e1
    show Rep K _ (.tup [.int (i : Nat), ds[i]]) (.ref T)
    simp only [Rep]
    exact ⟨T, _, rfl, .inl (.inl upd_same), reps_cons.mpr ⟨rint _ _ _, Reps.one (e2.mono (sm.trans x2.sub))⟩⟩
  · rw [enD_len] at hi
    have e : i = vs.length := by rw [hl, hi]
    subst e
    exact st H q1
def iEn (f : Env → Mu → R Va) : Env → Mu → R (List Va) := fun et m => (f et m).bind fun x m => match x with
  | .d (.lst ds) => .ok (enD ds) m
  | .d (.tup ds) => .ok (enD ds) m
  | _ => .stuck
theorem si_en (hg : Gl X "enumerate") (hm : X.mg "enumerate" = none) (he : SE X W e f) (hs : starEach [e] X.env = [(false, eval e X.env)] := by rfl) : SI X W (.Tuple elts kk tpos) (.Call (.Name "enumerate" p) [e] [] pos) (iEn f) := by
  obtain ⟨t, ht, r⟩ := sa_cons he (sa_nil (X := X) (W := W)) (by rw [hs]; rfl)
  refine ⟨_, pi_enA hg hm ht hs, fun Hs H rh sg et m Q s p => ?_⟩
  have p' : PostI X.K W Hs H rh sg et Q ((xCons f xNil et m).bind fun as m => match as with
    | [.d (.lst ds)] => .ok (enD ds) m
    | [.d (.tup ds)] => .ok (enD ds) m
    | _ => .stuck) := by
    unfold iEn at p
    cases q : f et m with
    | ok x m1 =>
      rw [q] at p
      simp only [xCons, xNil, q, R.bind_ok]
      cases x with
      | d x => cases x <;> exact p
      | l n => exact p
    | exc c d m1 => rw [q] at p; simp only [xCons, xNil, q, R.bind_exc]; exact p
    | stuck => rw [q] at p; exact p.elim
  refine r Hs H rh sg et m _ s (PostI.step p' fun as m1 vs Hs1 H1 rh1 x1 s1 r1 p1 => ?_)
  split at p1
  · rename_i ds
    obtain ⟨v, rfl, r2⟩ := as1 r1
    have rr : Rep X.K Hs1 (.lst ds) v := r2
    simp only [Rep] at rr
    obtain ⟨a, ws, rfl, e2, e3⟩ := rr
    refine ⟨a, ws, rfl, .inl ⟨SqL.of (s1.sc.same _ _ e2), p1 _ Hs1 H1 rh1 .refl s1 ?_⟩⟩
    exact gv_en (q := fun H ys => SqL X.K H a ys) e3 (fun Hs H rh m sc sm => SqL.of (sc.same _ _ (sm _ _ e2))) (fun i H hi hq => ⟨ws, ws[i], hq, List.getElem?_eq_getElem hi⟩)
      (fun i H v H' hq hy => let ⟨T, x, h1, h2, h3, h4⟩ := hy; ⟨T, x, h1, h2, h3, h4 _ hq⟩) (fun H hq => ⟨ws, hq, Nat.le_refl _⟩)
  · rename_i ds
    obtain ⟨v, rfl, r2⟩ := as1 r1
    have rr : Rep X.K Hs1 (.tup ds) v := r2
    simp only [Rep] at rr
    obtain ⟨a, ws, rfl, e2, e3⟩ := rr
    refine ⟨a, ws, rfl, .inr ⟨Same.seqT s1.sc.same e2, p1 _ Hs1 H1 rh1 .refl s1 ?_⟩⟩
    exact gv_en (q := fun H ys => SqT X.K H a ys) e3 (fun Hs H rh m sc sm => Same.seqT sc.same (Same.seqT sm e2)) (fun i H hi hq => ⟨ws, ws[i], hq, List.getElem?_eq_getElem hi⟩)
      (fun i H v H' hq hy => let ⟨T, x, h1, h2, h3, h4⟩ := hy; ⟨T, x, h1, h2, h3, h4 _ hq⟩) (fun H hq => ⟨ws, hq, rfl⟩)
  · exact p1.elim
end
end DL
set_option maxHeartbeats 4000000
namespace DL
open PySem PySem.Spec PyProof.Rows L2
/-! ## Defs of classes, keywords, recursion -/
abbrev BindN (name qual : Str) (st : Stmt) (ps : List Str) : Prop := ∀ (kV doc pm : Value) (an : Option Addr) (cdv ct : Value) (us : List Value), us.length = ps.length → bindArgs (PySem.W.fnOf name qual (defArgs st) (defBody st) (defScope st) .none kV doc pm an cdv ct) ⟨us, []⟩ = pure (ps.zip us)
abbrev BindK (name qual : Str) (st : Stmt) (n : Nat) (ps ks : List Str) : Prop := ∀ (kV doc pm : Value) (an : Option Addr) (cdv ct : Value) (us ws : List Value), us.length = n → ws.length = ks.length → bindArgs (PySem.W.fnOf name qual (defArgs st) (defBody st) (defScope st) .none kV doc pm an cdv ct) ⟨us, ks.zip ws⟩ = pure (ps.zip (us ++ ws))
section
variable {P : Program} {w : World} {K : PySem.W.Frag} {mg : Str → Option Value} {base : Heap} {x name qual : Str} {st : Stmt} {N ps ks : List Str} {k n : Nat} {f : Addr} {fd : FuncData}
theorem kbn_of (F : FunD K name qual (defArgs st) (defBody st) (defScope st) [] [] f fd) (h : BindK name qual st n ps ks) : KBn K fd ps n ks (fun us ws => us ++ ws) (fun vs zs => vs ++ zs) := by
  obtain ⟨oc, od, dV, kV, doc, pm, an, cdv, ct, osl, rfl, lk, hcd, hD, hK⟩ := F.ex
  rcases hD with ⟨_, rfl⟩ | ⟨e, _⟩
  · exact ⟨fun s us ws _ h1 h2 => .of_eq (h kV doc pm an cdv ct us ws h1 h2), fun r1 r2 => r1.append r2⟩
  · exact absurd rfl e
/-- __init__ of a class whose instances stay -/
theorem okN {c : Str} {F : List D → R0} {g : Env → Mu → RS} (gc : mg c = some (.ref (cA K c))) (M : Mk K (cA K c) f) (F0 : FunD K name qual (defArgs st) (defBody st) (defScope st) [] [] f fd) (S : FnScope N ps (defScope st)) (hn : ps.length = n + 1) (hk : ks.length = n)
    (hb : BindN name qual st ps) (hkb : BindK name qual st 1 ps ks)
    (sb : ∀ cd A outer s H E, Cok (cxD P w K mg base N qual (defScope st) f cd A outer s H E) (fun c d _ H => E c d H) k → SB (cxD P w K mg base N qual (defScope st) f cd A outer s H E) (fun c d _ H => E c d H) (defBody st) g)
    (hF : ∀ ds, ds.length = n → F ds ≠ .stuck → outI (g (startD N.length (.l 0 :: ds.map .d)) [some (.obj c [])]) = F ds) : NewOk P w K mg base (k + 1) c n ks F := by
  refine ⟨f, fd, ps, gc, M, F0.bindsN hb, kbn_of F0 hkb, hk, F0.ok S (fun vs H Q E h => h.1.trans hn.symm) fun cd A outer s H vs Q E hr h => ?_⟩
  exact spN_run (X := cxD P w K mg base N qual (defScope st) f cd A outer s H E) (sb cd A outer s H E ⟨L2N.takes_of (X := cxD P w K mg base N qual (defScope st) f cd A outer s H E) rfl rfl rfl rfl, passes_of (X := cxD P w K mg base N qual (defScope st) f cd A outer s H E) rfl, hr, rfl⟩) hF h
/-- a method that is promised purely -/
theorem okM {c m : Str} {F : List D → R0} {g : Env → Mu → RS} (hm : Meth K (cA K c) m f) (F0 : FunD K name qual (defArgs st) (defBody st) (defScope st) [] [] f fd) (S : FnScope N ps (defScope st)) (hn : ps.length = n)
    (hb : BindN name qual st ps)
    (sb : ∀ cd A outer s H E, Cok (cxD P w K mg base N qual (defScope st) f cd A outer s H E) (fun c d _ H => E c d H) k → SB (cxD P w K mg base N qual (defScope st) f cd A outer s H E) (fun c d _ H => E c d H) (defBody st) g)
    (hF : ∀ ds, ds.length = n → F ds ≠ .stuck → outP (g (startD N.length (ds.map .d)) []) = F ds) : MtP P w K mg base (k + 1) c m n F := by
  refine ⟨f, fd, ps, hm, F0.bindsN hb, F0.ok S (fun vs H Q E h => h.1.trans hn.symm) fun cd A outer s H vs Q E hr h => ?_⟩
  exact spP_run (X := cxD P w K mg base N qual (defScope st) f cd A outer s H E) (sb cd A outer s H E ⟨L2N.takes_of (X := cxD P w K mg base N qual (defScope st) f cd A outer s H E) rfl rfl rfl rfl, passes_of (X := cxD P w K mg base N qual (defScope st) f cd A outer s H E) rfl, hr, rfl⟩) hF h
/-- for the first step of a def that calls itself -/
theorem okP0 (h : DefOk K mg x name qual st) (S : FnScope N ps (defScope st)) (hn : ps.length = n) (hb : BindN name qual st ps) : FnP P w K mg base (k + 1) x n (fun _ => .stuck) := by
  obtain ⟨f, fd, hm, F0⟩ := h.ex
  refine ⟨f, fd, ps, hm, F0.kp, F0.bindsN hb, F0.ok S (fun vs H Q E h => h.1.trans hn.symm) fun cd A outer s H vs Q E hr h => ?_⟩
  obtain ⟨_, _, _, _, _, z⟩ := h
  exact z.elim
end
/-- a pure def, called by keywords alone -/
structure FnPK (P : Program) (w : World) (K : PySem.W.Frag) (mg : Str → Option Value) (base : Heap) (k : Nat) (x : Str) (n : Nat) (ks : List Str) (F : List D → R0) : Prop where
  ex : ∃ f fd ps, mg x = some (.ref f) ∧ PySem.W.keepIn K (.ref f) = true ∧ KBn K fd ps 0 ks (fun us ws => us ++ ws) (fun vs zs => vs ++ zs) ∧ ks.length = n ∧ FnOk P w K mg base (L2N.CX P w) k f fd ps (SpP K n F)
theorem okPK {P : Program} {w : World} {K : PySem.W.Frag} {mg : Str → Option Value} {base : Heap} {x name qual : Str} {st : Stmt} {N ps ks : List Str} {k n : Nat} {F : List D → R0} {g : Env → Mu → RS} (h : DefOk K mg x name qual st) (S : FnScope N ps (defScope st)) (hn : ps.length = n) (hk : ks.length = n) (hb : BindK name qual st 0 ps ks)
    (sb : ∀ (f : Addr) cd A outer s H E, Cok (cxD P w K mg base N qual (defScope st) f cd A outer s H E) (fun c d _ H => E c d H) k → SB (cxD P w K mg base N qual (defScope st) f cd A outer s H E) (fun c d _ H => E c d H) (defBody st) g)
    (hF : ∀ ds, ds.length = n → F ds ≠ .stuck → outP (g (startD N.length (ds.map .d)) []) = F ds) : FnPK P w K mg base (k + 1) x n ks F := by
  obtain ⟨f, fd, hm, F0⟩ := h.ex
  refine ⟨f, fd, ps, hm, F0.kp, kbn_of F0 hb, hk, F0.ok S (fun vs H Q E h => h.1.trans hn.symm) fun cd A outer s H vs Q E hr h => ?_⟩
  exact spP_run (X := cxD P w K mg base N qual (defScope st) f cd A outer s H E) (sb f cd A outer s H E ⟨L2N.takes_of (X := cxD P w K mg base N qual (defScope st) f cd A outer s H E) rfl rfl rfl rfl, passes_of (X := cxD P w K mg base N qual (defScope st) f cd A outer s H E) rfl, hr, rfl⟩) hF h
section
variable {X : Cx} {W : WX} {k n : Nat} {f : Addr} {fd : FuncData} {ps ks : List Str} {sp : Sp} {E : St2 → XK} {x : Str} {p pos : Pos} {kws : List Keyword} {tk : TA} {g : Env → Mu → R (List Va)}
theorem pe_callK0 (F : FnOk X.prog X.w X.K X.mg X.base (L2N.CX X.prog X.w) k f fd ps sp) (hr : Room k X.A) (hg : Gl X x) (hm : X.mg x = some (.ref f)) (hk : PySem.W.keepIn X.K (.ref f) = true) (hb : KBn X.K fd ps 0 ks (fun us ws => us ++ ws) (fun vs zs => vs ++ zs)) (hx : ∀ σ, PassesAt (L2N.CX X.prog X.w) X σ (E σ))
    (hkw : PK X kws tk) (hall : (backToKw pos (keywordEach kws X.env)).all (·.1.isSome) = true := by rfl) (hks : (backToKw pos (keywordEach kws X.env)).filterMap (·.1) = ks := by rfl) (hdb : (x == ("__debug__" : Str)) = false := by decide)
    (hpl : ((backTo pos (starEach [] X.env)).any (·.1) || (backToKw pos (keywordEach kws X.env)).any (·.1.isNone)) = false := by rfl) :
    PE X (.Call (.Name x p) [] kws pos) (fun σ H Q => tk σ H fun zs H2 => zs.length = ks.length ∧ sp zs H2 Q (E σ)) := by
  refine ⟨fun pins s σ H Q I h => ?_⟩
  refine wpAny_Call_Name_kw (ld_glob I hg hm ?_ hdb)
  refine PySem.W.callWith_KW0 (h₀ := X.base) I.ok.mod.kin hk hall ?_ hpl
  refine thn (hkw.run pos pins s σ H _ I h) fun ws s2 z => ?_
  obtain ⟨zs, H2, I2, rz, l2, q2⟩ := z
  refine ⟨I2.kIn, ?_⟩
  rw [hks]
  have b := hb.to s2 [] ws I2.kIn rfl (rz.length.symm.trans l2)
  refine wpAny_call (codeAny_mono (F.run X.A X.stack s2 H2 ⟨[], ks.zip ws⟩ ws zs Q (E σ) hr I2.env0 b rz q2) fun r s' hq => ?_)
  cases r with
  | error er => exact hx σ pins H2 s2 er s' I2 hq
  | ok fl =>
    cases fl with
    | ret u => exact I2.after hq
    | next => exact False.elim hq
    | brk => exact False.elim hq
    | cont => exact False.elim hq
theorem se_callPK {F : List D → R0} (hf : FnPK X.prog X.w X.K X.mg X.base k x n ks F) (hr : Room k X.A) (tk : L2N.Takes X W) (hg : Gl X x) (ha : SKw X W kws g) (hall : (backToKw pos (keywordEach kws X.env)).all (·.1.isSome) = true := by rfl) (hks : (backToKw pos (keywordEach kws X.env)).filterMap (·.1) = ks := by rfl) (hdb : (x == ("__debug__" : Str)) = false := by decide)
    (hpl : ((backTo pos (starEach [] X.env)).any (·.1) || (backToKw pos (keywordEach kws X.env)).any (·.1.isNone)) = false := by rfl) : SE X W (.Call (.Name x p) [] kws pos) (xCallP n F g) := by
  obtain ⟨f, fd, ps, hm, hk, hb, hl', ok⟩ := hf.ex
  obtain ⟨t, ht, r⟩ := ha
  refine ⟨_, pe_callK0 ok hr hg hm hk hb (fun sg => L2N.passAt tk sg) ht hall hks hdb hpl, fun Hs H rh sg et m Q s z => ?_⟩
  unfold xCallP at z
  refine r Hs H rh sg et m _ s (Post.step z fun as m1 vs Hs1 H1 rh1 x1 s1 r1 p1 => ?_)
  by_cases hl : as.length = n
  · rw [if_pos hl] at p1
    exact ⟨by rw [r1.length, hl, hl'], postP_of s1 r1 (by rw [r1.length, hl]) p1⟩
  · rw [if_neg hl] at p1
    exact p1.elim
end
/-! ### properties from the written part -/
def gtA (K : PySem.W.Frag) (c f : Str) : Addr × Addr := match PySem.W.findIn K (.ref (cA K c)) f with
  | some (some (.ref p)) => (match PySem.W.recIn K p "property" with
    | some (.ref g :: _) => (p, g)
    | _ => (p, 0))
  | _ => (0, 0)
def fnWA (K : PySem.W.Frag) (a : Addr) : He.FnW := match K.lookup a with
  | some ⟨_, _, .func d, _⟩ => some (d.name, d.qualname, d.params, d.body, d.scope, d.globals, d.closure, d.builtins)
  | _ => none
def valA (name qual : Str) (st : Stmt) : He.FnW := some (name, qual, defArgs st, .stmts (defBody st), defScope st, mainGlobals, [], builtinsNs)
def funB (K : PySem.W.Frag) (a : Addr) (qual : Str) : Bool := PySem.W.keepIn K (.ref a) && (match K.lookup a with
  | some ⟨_, _, .func d, _⟩ => PySem.W.codeIn K d.code qual && (He.dflB K d.defaults [] && He.kwdB K d.kwdefaults [])
  | _ => false)
theorem funA {K : PySem.W.Frag} {a : Addr} {name qual : Str} {st : Stmt} (e : fnWA K a = valA name qual st) (c : funB K a qual = true) : ∃ fd, FunD K name qual (defArgs st) (defBody st) (defScope st) [] [] a fd := by
  obtain ⟨kp, c2⟩ := He.ba c
  unfold fnWA at e
  cases q : K.lookup a with
  | none => rw [q] at c2; cases c2
  | some o =>
    obtain ⟨o1, o2, dt, o4⟩ := o
    rw [q] at c2 e
    cases dt with
    | func fd =>
      obtain ⟨m1, m2, m3, m4, m5, m6, m7, m8, m9, m10, m11, m12, m13, m14, m15⟩ := fd
      have e2 : (some (m1, m2, m3, m4, m5, m6, m7, m15) : He.FnW) = some (name, qual, defArgs st, .stmts (defBody st), defScope st, mainGlobals, [], builtinsNs) := e
      simp only [Option.some.injEq, Prod.mk.injEq] at e2
      obtain ⟨g1, g2, g3, g4, g5, g6, g7, g8⟩ := e2
      subst g1 g2 g3 g4 g5 g6 g7 g8
      have c3 : (PySem.W.codeIn K m13 m2 && (He.dflB K m8 [] && He.kwdB K m9 [])) = true := c2
      obtain ⟨k1, k2⟩ := He.ba c3
      obtain ⟨k3, k4⟩ := He.ba k2
      exact ⟨_, ⟨o1, o2, m8, m9, m10, m11, m12, m13, m14, o4, rfl, q, k1, He.dflB_ok k3, He.kwdB_ok k4⟩, kp⟩
    | _ => cases c2
def propB (K : PySem.W.Frag) (c f h qual : Str) : Bool := He.eqO (PySem.W.findIn K (.ref (cA K c)) f) (some (some (.ref (gtA K c f).1))) && (He.eqO (PySem.W.specialIn K (.ref (gtA K c f).1) "__get__") (some (some (.builtin "property.__get__"))) &&
  (oB (PySem.W.takesIn K (.ref (gtA K c f).1)) (some true) && ((match PySem.W.recIn K (gtA K c f).1 "property" with
    | some (.ref g :: _) => decide (g = (gtA K c f).2)
    | _ => false) && (funB K (gtA K c f).2 qual && (objB K c && He.eqO (PySem.W.findIn K (.ref (cA K c)) h) (some none))))))
theorem propK_of {P : Program} {w : World} {K : PySem.W.Frag} {mg : Str → Option Value} {base : Heap} {c f h qual : Str} {st : Stmt} (e : fnWA K (gtA K c f).2 = valA f qual st) (b : propB K c f h qual = true) (S : FnScope ["self"] ["self"] (defScope st)) (hb : ∃ p1 p2 p3, defBody st = [.Return (some (.Attribute (.Name "self" p1) h p2)) p3])
    (hbn : BindN f qual st ["self"]) : PropK P w K mg base 1 c f h := by
  obtain ⟨b1, b⟩ := He.ba b
  obtain ⟨b2, b⟩ := He.ba b
  obtain ⟨b3, b⟩ := He.ba b
  obtain ⟨b4, b⟩ := He.ba b
  obtain ⟨b5, b⟩ := He.ba b
  obtain ⟨b6, b7⟩ := He.ba b
  obtain ⟨fd, F⟩ := funA e b5
  obtain ⟨q1, q2, q3, hbody⟩ := hb
  have hrec : ∃ rest, PySem.W.recIn K (gtA K c f).1 "property" = some (.ref (gtA K c f).2 :: rest) := by
    split at b4
    · rename_i g rest q
      exact ⟨rest, by rw [q, of_decide_eq_true b4]⟩
    · cases b4
  have cl := (objB_ok b6).1
  refine ⟨⟨_, _, fd, ["self"], ⟨He.eqO_ok b1, He.eqO_ok b2, of_decide_eq_true b3, hrec⟩, F.bindsN hbn, ?_⟩, cl⟩
  obtain ⟨oc, od, dV, kV, doc, pm, an, cdv, ct, osl, rfl, lk, hcd, _, _⟩ := F.ex
  exact fn_getter (p1 := q1) (p2 := q2) (p3 := q3) lk hcd S rfl hbody cl (He.eqO_ok b7)
end DL
set_option maxHeartbeats 4000000
namespace DL
open PySem PySem.Spec PyProof.Rows L2
section
variable {X : Cx} {W : WX} {a b c : Expr} {pos : Pos} {tc ta tb : TT} {p q r : Env → Mu → R Bool}
theorem pt_ifE (hc : PT X c tc) (ha : PT X a ta) (hb : PT X b tb) : PT X (.IfExp c a b pos) (fun σ H Q => tc σ H fun k H1 => if k = true then ta σ H1 Q else tb σ H1 Q) := by
  refine ⟨fun pins s σ H Q I h => ?_⟩
  refine PyProof.Rows.isTrue_IfExp (wpAny_mono (hc.run pins s σ H _ I h) (fun k s1 z => ?_) fun _ _ z => z)
  obtain ⟨H1, I1, z⟩ := z
  cases k with
  | true => exact ha.run pins s1 σ H1 Q I1 z
  | false => exact hb.run pins s1 σ H1 Q I1 z
def xIfT (p q r : Env → Mu → R Bool) : Env → Mu → R Bool := fun et m => (p et m).bind fun k m => if k = true then q et m else r et m
theorem st_ifE (hc : ST X W c p) (ha : ST X W a q) (hb : ST X W b r) : ST X W (.IfExp c a b pos) (xIfT p q r) := by
  obtain ⟨t1, h1, r1⟩ := hc
  obtain ⟨t2, h2, r2⟩ := ha
  obtain ⟨t3, h3, r3⟩ := hb
  refine ⟨_, pt_ifE h1 h2 h3, fun Hs H rh sg et m Q s z => ?_⟩
  unfold xIfT at z
  refine r1 Hs H rh sg et m _ s (Post.step z fun k m1 v Hs1 H1 rh1 x1 s1 e1 p1 => ?_)
  have e : k = v := e1
  subst e
  cases k with
  | true => exact iteT (r2 Hs1 H1 rh1 sg et m1 Q s1 (by simpa using p1))
  | false => exact iteF (r3 Hs1 H1 rh1 sg et m1 Q s1 (by simpa using p1))
end
end DL
set_option maxHeartbeats 4000000
namespace DL
open PySem PySem.Spec PyProof.Rows L2
/-! ## a tuple so many times, any number of times -/
theorem tuple_mul0 (l : Addr) (items : Array Value) (n : Nat) (dd : Option Addr) (sl : Array (Option Value)) (x : Int) (u : Tok) (c0 : (decide (x < -(2 ^ 63)) || decide (x ≥ 2 ^ 63)) = false) (c1 : (items.isEmpty || x == 1) = false) (c2 : (decide (x ≤ 0) || items.isEmpty) = true) :
    Meets (Builtin.«tuple.__mul__» ⟨[.ref l, .int x u], []⟩) (fun _ R s => s.heap.get? l = some { cls := .type "tuple", dict := dd, data := .seq items n, slots := sl } ∧
      R (.ok (.ret (Value.ref s.heap.objs.size))) { s with heap := s.heap.push { cls := Value.type "tuple", data := Data.seq #[] }, toks := s.toks }) :=
  .of_wp fun prog w A R s h => by
    obtain ⟨hp, g, d, tk, os⟩ := s
    obtain ⟨hl, h⟩ := h
    have f1 := AutoSeq1.idx_int
    wp_walk using wpAny_loadPart' hl
    repeat (first
      | (refine wpAny_ite_false (decide_eq_false (by rw [c0]; exact Bool.false_ne_true)) ?_; wp_walk using wpAny_loadPart' hl)
      | (refine wpAny_ite_false (decide_eq_false (by rw [c1]; exact Bool.false_ne_true)) ?_; wp_walk using wpAny_loadPart' hl)
      | (refine wpAny_ite_true (decide_eq_true c2) ?_; wp_walk using wpAny_loadPart' hl))
    exact ⟨_, rfl, h⟩
theorem tuple_mul1 (l : Addr) (items : Array Value) (n : Nat) (dd : Option Addr) (sl : Array (Option Value)) (x : Int) (u : Tok) (c0 : (decide (x < -(2 ^ 63)) || decide (x ≥ 2 ^ 63)) = false) (c1 : (items.isEmpty || x == 1) = true) :
    Meets (Builtin.«tuple.__mul__» ⟨[.ref l, .int x u], []⟩) (fun _ R s => s.heap.get? l = some { cls := .type "tuple", dict := dd, data := .seq items n, slots := sl } ∧
      R (.ok (.ret (Value.ref l))) s) :=
  .of_wp fun prog w A R s h => by
    obtain ⟨hp, g, d, tk, os⟩ := s
    obtain ⟨hl, h⟩ := h
    have f1 := AutoSeq1.idx_int
    wp_walk using wpAny_loadPart' hl
    repeat (first
      | (refine wpAny_ite_false (decide_eq_false (by rw [c0]; exact Bool.false_ne_true)) ?_; wp_walk using wpAny_loadPart' hl)
      | (refine wpAny_ite_true (decide_eq_true c1) ?_; wp_walk using wpAny_loadPart' hl))
    exact ⟨_, rfl, h⟩
def rRepT2 (K : PySem.W.Frag) : R2 := fun x y H Q => ∃ l k xs, x = .ref l ∧ y = .int k ∧ SqT K H l xs ∧ xs ≠ [] ∧ -(2 ^ 62) < k ∧ k ≤ 1000000 ∧ (xs.length : Int) * k ≤ 1000000 ∧ (k = 1 → Q (.ref l) H) ∧ (k ≠ 1 → ∀ p, H p = none → Q (.ref p) (upd H p (.tup (List.replicate k.toNat xs).flatten)))
section
variable {X : Cx}
theorem op_repT2 : OpR X (binaryOp .Mult) (rRepT2 X.K) := by
  intro pins s σ H x y v u Q I rx ry h
  obtain ⟨l, k, xs, rfl, rfl, hT, hne, h1, h2, hz, q1, q2⟩ := h
  cases rx
  obtain ⟨t, rfl⟩ := ry
  obtain ⟨its, r, ⟨⟨cls, dd, data, sl⟩, ho, hc, n, hd⟩, hs⟩ := I.tuple hT
  simp only at hc hd
  subst hc hd
  have hle : its.length = xs.length := r.length.symm
  have hn : its ≠ [] := fun e => hne (by
    rw [e] at hle
    exact List.eq_nil_of_length_eq_zero hle.symm)
  have hi : its.toArray.isEmpty = false := by
    cases its with
    | nil => exact absurd rfl hn
    | cons a b => rfl
  have hsz0 : its.toArray.size = xs.length := by rw [List.size_toArray, hle]
  have hm : ((its.toArray.size : Nat) : Int) * k ≤ 1000000 := by rw [hsz0]; exact hz
  have hx1 : 1 ≤ xs.length := by
    cases xs with
    | nil => exact absurd rfl hne
    | cons _ _ => simp
  have flen : k.toNat * its.length ≤ 1000000 := by
    rw [hle]
    by_cases hk : 0 ≤ k
    · obtain ⟨m, rfl⟩ := Int.eq_ofNat_of_zero_le hk
      rw [Int.toNat_natCast]
      have : ((xs.length * m : Nat) : Int) ≤ 1000000 := by rw [Int.natCast_mul]; exact hz
      rw [Nat.mul_comm]
      omega
    · have : k.toNat = 0 := by omega
      rw [this, Nat.zero_mul]
      omega
  have c0 : (decide (k < -(2 ^ 63)) || decide (k ≥ 2 ^ 63)) = false := by
    rw [decide_eq_false (by omega), decide_eq_false (by omega)] <;> rfl
  by_cases k1 : k = 1
  · have c1 : (its.toArray.isEmpty || k == 1) = true := by
      rw [hi, Bool.false_or]
      exact beq_iff_eq.mpr k1
    refine wpAny_binaryOp_repeat_ref (T := "tuple") (U := "int") (by decide) ⟨_, ho, rfl⟩ (fun s' => typeIs_int s' k t) noFill_tuple_mul F.fills_int_mul F.slot_int_rmul repeat_tuple F.slot_int_index.lookup
      (call_meets F.slot_int_rmul (typeIs_int s k t) F.entry_int_rmul (F.args_int_rmul_2 _ _) (int_rmul_tuple k t l its.toArray n dd sl)
        ⟨ho, rfl, ⟨_, ho, rfl⟩, call_meets F.slot_tuple_mul ⟨_, ho, rfl⟩ F.entry_tuple_mul (F.args_tuple_mul_2 _ _) (tuple_mul1 l its.toArray n dd sl k t c0 c1) ⟨ho, ?_⟩⟩)
    exact ⟨.ref l, H, I, rfl, q1 k1⟩
  · have c1 : (its.toArray.isEmpty || k == 1) = false := by
      rw [hi, Bool.false_or]
      exact beq_eq_false_iff_ne.mpr k1
    by_cases k0 : k ≤ 0
    · have c2 : (decide (k ≤ 0) || its.toArray.isEmpty) = true := by
        rw [decide_eq_true k0, Bool.true_or]
      have hz0 : k.toNat = 0 := by omega
      have e0 : (List.replicate k.toNat xs).flatten = [] := by rw [hz0]; rfl
      rw [e0] at q2
      refine wpAny_binaryOp_repeat_ref (T := "tuple") (U := "int") (by decide) ⟨_, ho, rfl⟩ (fun s' => typeIs_int s' k t) noFill_tuple_mul F.fills_int_mul F.slot_int_rmul repeat_tuple F.slot_int_index.lookup
        (call_meets F.slot_int_rmul (typeIs_int s k t) F.entry_int_rmul (F.args_int_rmul_2 _ _) (int_rmul_tuple k t l its.toArray n dd sl)
          ⟨ho, rfl, ⟨_, ho, rfl⟩, call_meets F.slot_tuple_mul ⟨_, ho, rfl⟩ F.entry_tuple_mul (F.args_tuple_mul_2 _ _) (tuple_mul0 l its.toArray n dd sl k t c0 c1 c2) ⟨ho, ?_⟩⟩)
      refine ⟨.ref s.heap.objs.size, _, I.laid (t' := s.toks) (o := .tup []) (fun b ob q => Heap.get?_push_of_some _ q) (Nat.le_refl _) ?_, rfl, q2 k1 _ (I.hok.fresh (Nat.le_refl _))⟩
      exact ⟨Nat.zero_le _, [], .nil, IsTup.new _ _⟩
    · have c2 : (decide (k ≤ 0) || its.toArray.isEmpty) = false := by
        rw [hi, Bool.or_false]
        exact decide_eq_false k0
      have c4 : Builtin.Tuple.tupleTooMany (((its.toArray.size : Nat) : Int) * k) = false := by
        unfold Builtin.Tuple.tupleTooMany
        rw [sizeLine_eq]
        exact decide_eq_false (by omega)
      have flen2 : (List.replicate k.toNat its).flatten.length ≤ sizeLine := by
        rw [PyProof.Rows.lm_len_rep_flat, sizeLine_eq]
        omega
      refine wpAny_binaryOp_repeat_ref (T := "tuple") (U := "int") (by decide) ⟨_, ho, rfl⟩ (fun s' => typeIs_int s' k t) noFill_tuple_mul F.fills_int_mul F.slot_int_rmul repeat_tuple F.slot_int_index.lookup
        (call_meets F.slot_int_rmul (typeIs_int s k t) F.entry_int_rmul (F.args_int_rmul_2 _ _) (int_rmul_tuple k t l its.toArray n dd sl)
          ⟨ho, rfl, ⟨_, ho, rfl⟩, call_meets F.slot_tuple_mul ⟨_, ho, rfl⟩ F.entry_tuple_mul (F.args_tuple_mul_2 _ _) (tuple_mulW l its.toArray n dd sl k t c0 c1 c2 (by omega) c4 (by rw [size_rep, List.size_toArray]; exact flen2)) ⟨ho, ?_⟩⟩)
      rw [size_rep]
      refine ⟨.ref s.heap.objs.size, _, I.laid (t' := s.toks) (o := .tup (List.replicate k.toNat xs).flatten) (fun b ob q => Heap.get?_push_of_some _ q) (Nat.le_refl _) ?_, rfl, q2 k1 _ (I.hok.fresh (Nat.le_refl _))⟩
      exact ⟨by rw [PyProof.Rows.lm_len_rep_flat, ← hle, sizeLine_eq]; omega, _, r.rep k.toNat, IsTup.new _ _⟩
open Classical in
/-- *: numbers, a tuple so many times -/
@[simp] noncomputable def oMulT : Va → Va → Mu → R Va := fun x y m => match x, y with
  | .d (.int i), .d (.int j) => if CMul i j then .ok (.d (.int (i * j))) m else .stuck
  | .d (.tup a), .d (.int k) => if a ≠ [] ∧ -(2 ^ 62) < k ∧ k ≤ 1000000 ∧ (a.length : Int) * k ≤ 1000000 then .ok (.d (.tup (List.replicate k.toNat a).flatten)) m else .stuck
  | _, _ => .stuck
theorem os_mulT : OpS X (binaryOp .Mult) oMulT := by
  refine ⟨_, op_mul.or op_repT2, fun W Hs H rh sg et m x y u v Q s r1 r2 p => ?_⟩
  unfold oMulT at p
  split at p
  · rename_i i j
    by_cases c : CMul i j
    · rw [if_pos c] at p
      exact .inl ⟨_, _, va_int r1, va_int r2, c, Post.ok_ p .refl s mk_int⟩
    · rw [if_neg c] at p
      exact p.elim
  · rename_i a k
    by_cases c : a ≠ [] ∧ -(2 ^ 62) < k ∧ k ≤ 1000000 ∧ (a.length : Int) * k ≤ 1000000
    · rw [if_pos c] at p
      obtain ⟨a1, vs, rfl, q1, h1⟩ := asT_rd s.sc r1 rfl
      refine .inr ⟨a1, k, vs, rfl, va_int r2, q1, fun e => c.1 ?_, c.2.1, c.2.2.1, by rw [h1.length]; exact c.2.2.2, fun e => ?_, fun _ => Post.tupNew s (reps_rep h1 _) p⟩
      · have := h1.length
        rw [e] at this
        exact List.length_eq_zero_iff.mp this.symm
      · subst e
        have e1 : (List.replicate (1 : Int).toNat a).flatten = a := by simp
        rw [e1] at p
        exact Post.ok_ p .refl s r1
    · rw [if_neg c] at p
      exact p.elim
  · exact p.elim
end
end DL
set_option maxHeartbeats 4000000
namespace DL
open PySem PySem.Spec PyProof.Rows L2
/-! ## the head's facts: constants, getters -/
mutual
/-- the value u is the datum d, by the written part -/
def repB (K : PySem.W.Frag) : D → Value → Bool
  | .non, u => (match u with
    | .none => true
    | _ => false)
  | .bl b, u => (match u with
    | .bool c => b == c
    | _ => false)
  | .int i, u => (match u with
    | .int j _ => decide (i = j)
    | _ => false)
  | .str x, u => (match u with
    | .str y _ => decide (x = y)
    | _ => false)
  | .tup ds, u => (match u with
    | .ref a => (match K.lookup a with
      | some ⟨.type c, _, .seq its _, _⟩ => decide (c = "tuple") && (decide (its.size ≤ sizeLine) && repsB K ds its.toList)
      | _ => false)
    | _ => false)
  | _, _ => false
def repsB (K : PySem.W.Frag) : List D → List Value → Bool
  | [], us => us.isEmpty
  | d :: ds, us => (match us with
    | u :: us => repB K d u && repsB K ds us
    | [] => false)
end
mutual
theorem repB_ok {K : PySem.W.Frag} : ∀ {d : D} {u : Value}, repB K d u = true → ∃ v, RelV v u ∧ ∀ Hs, Rep K Hs d v
  | .non, u, h => by
    cases u with
    | none => exact ⟨.non, rfl, fun Hs => rnon K Hs⟩
    | _ => simp [repB] at h
  | .bl b, u, h => by
    cases u with
    | bool c =>
      have e : b = c := by simpa [repB] using h
      subst e
      exact ⟨.bl b, rfl, fun Hs => rbl K Hs b⟩
    | _ => simp [repB] at h
  | .int i, u, h => by
    cases u with
    | int j t =>
      have e : i = j := by simpa [repB] using h
      subst e
      exact ⟨.int i, ⟨t, rfl⟩, fun Hs => rint K Hs i⟩
    | _ => simp [repB] at h
  | .str x, u, h => by
    cases u with
    | str y t =>
      have e : x = y := by simpa [repB] using h
      subst e
      exact ⟨.str x, ⟨t, rfl⟩, fun Hs => rstr K Hs x⟩
    | _ => simp [repB] at h
  | .tup ds, u, h => by
    cases u with
    | ref a =>
      simp only [repB] at h
      split at h
      · rename_i c od its n sl q
        obtain ⟨h1, h2⟩ := He.ba h
        obtain ⟨h3, h4⟩ := He.ba h2
        obtain ⟨vs, r1, r2⟩ := repsB_ok h4
        refine ⟨.ref a, rfl, fun Hs => ?_⟩
        simp only [Rep]
        exact ⟨a, vs, rfl, .inr ⟨_, its, n, q, congrArg Value.type (of_decide_eq_true h1), rfl, of_decide_eq_true h3, r1⟩, r2 Hs⟩
      · cases h
    | _ => simp [repB] at h
  | .lst _, u, h => by simp [repB] at h
  | .obj _ _, u, h => by simp [repB] at h
  | .dct _, u, h => by simp [repB] at h
  | .scr _, u, h => by simp [repB] at h
  | .ty _, u, h => by simp [repB] at h
  | .cls _, u, h => by simp [repB] at h
  | .exn _ _ _ _, u, h => by simp [repB] at h
theorem repsB_ok {K : PySem.W.Frag} : ∀ {ds : List D} {us : List Value}, repsB K ds us = true → ∃ vs, Vals vs us ∧ ∀ Hs, Reps K Hs ds vs
  | [], us, h => by
    cases us with
    | nil => exact ⟨[], .nil, fun Hs => reps_nil.mpr rfl⟩
    | cons _ _ => simp [repsB] at h
  | d :: ds, us, h => by
    cases us with
    | nil => simp [repsB] at h
    | cons u us =>
      simp only [repsB] at h
      obtain ⟨h1, h2⟩ := He.ba h
      obtain ⟨v, a1, a2⟩ := repB_ok h1
      obtain ⟨vs, b1, b2⟩ := repsB_ok h2
      exact ⟨v :: vs, .cons a1 b1, fun Hs => reps_cons.mpr ⟨a2 Hs, b2 Hs⟩⟩
end
def gcB (K : PySem.W.Frag) (x : Str) (d : D) : Bool := match PySem.W.nsIn K mainGlobals x with
  | some (some u) => repB K d u
  | _ => false
theorem gcB_ok {K : PySem.W.Frag} {h : Heap} {mg : Str → Option Value} (X : K.In h) (G : h.Ns mainGlobals mg) {x : Str} {d : D} (c : gcB K x d = true) : GC K mg x d := by
  unfold gcB at c
  split at c
  · rename_i u q
    obtain ⟨v, h1, h2⟩ := repB_ok c
    exact ⟨v, u, PySem.W.mg_of X G q, h1, h2⟩
  · cases c
/-! ### the Hook: getters beside -/
abbrev AlP : Type := He.AlD × (Bool × List He.FnW)
def obsP (fa : List He.Fa) (fn : List He.DefD) (gt : List (Str × Str)) (ex : PySem.W.Frag → Bool) (K : PySem.W.Frag) : AlP := (He.obsD fa fn K, (ex K, gt.map fun p => fnWA K (gtA K p.1 p.2).2))
def valP (fn : List He.DefD) (gv : List He.FnW) : AlP := (He.valD fn, (true, gv))
structure SaysP (fa : List He.Fa) (fn : List He.DefD) (gt : List (Str × Str)) (gv : List He.FnW) (ex : PySem.W.Frag → Bool) (K : PySem.W.Frag) : Prop where
  d : He.SaysD fa fn K
  more : ex K = true
  get : (gt.map fun p => fnWA K (gtA K p.1 p.2).2) = gv
def obsPG (n : Nat) (fa : List He.Fa) (fn : List He.DefD) (gt : List (Str × Str)) (ex : PySem.W.Frag → Bool) (g : Addr → Option Obj) : AlP := obsP fa fn gt ex (He.frG g (He.asD g n))
theorem saysP_of {fa : List He.Fa} {fn : List He.DefD} {gt : List (Str × Str)} {gv : List He.FnW} {ex : PySem.W.Frag → Bool} {K : PySem.W.Frag} (e : obsP fa fn gt ex K = valP fn gv) : SaysP fa fn gt gv ex K :=
  ⟨congrArg (fun z : AlP => z.1) e, congrArg (fun z : AlP => z.2.1) e, congrArg (fun z : AlP => z.2.2) e⟩
def hookP (n : Nat) (fa : List He.Fa) (fn : List He.DefD) (gt : List (Str × Str)) (gv : List He.FnW) (ex : PySem.W.Frag → Bool) : PySem.W.Hook where
  α := AlP
  obs := fun s => obsPG n fa fn gt ex s.heap.get?
  val := fun _ => valP fn gv
  says := fun _ h => ∃ K : PySem.W.Frag, K.In h ∧ SaysP fa fn gt gv ex K
  of := fun _ _ e => ⟨_, He.frG_in, saysP_of e⟩
  keeps := fun _ _ _ ⟨K, hK, c⟩ k => ⟨K, PySem.W.Frag.In.keeps hK k, c⟩
theorem obsPG_eq {n : Nat} {fa : List He.Fa} {fn : List He.DefD} {gt : List (Str × Str)} {gv : List He.FnW} {ex : PySem.W.Frag → Bool} {g : Addr → Option Obj} {s : Shared} (h : ∀ a, g a = s.heap.get? a) : obsPG n fa fn gt ex g = (hookP n fa fn gt gv ex).obs s := by
  have e : g = s.heap.get? := funext h
  rw [e] <;> rfl
theorem SaysP.get_ {fa : List He.Fa} {fn : List He.DefD} {gt : List (Str × Str)} {gv : List He.FnW} {ex : PySem.W.Frag → Bool} {K : PySem.W.Frag} (c : SaysP fa fn gt gv ex K) (i : Nat) {p : Str × Str} {v : He.FnW} (h : gt[i]? = some p := by rfl) (hv : gv[i]? = some v := by rfl) : fnWA K (gtA K p.1 p.2).2 = v := by
  have e := c.get
  have e2 : (gt.map fun p => fnWA K (gtA K p.1 p.2).2)[i]? = gv[i]? := by rw [e]
  rw [List.getElem?_map, h, hv] at e2
  exact Option.some.inj e2
end DL
set_option maxHeartbeats 4000000
namespace DL
open PySem PySem.Spec PyProof.Rows L2
/-! the head's hook over addresses that are written out -/
def obsL (L : List Addr) (fa : List He.Fa) (fn : List He.DefD) (gt : List (Str × Str)) (ex : PySem.W.Frag → Bool) (g : Addr → Option Obj) : AlP := obsP fa fn gt ex (He.frG g L)
def hookL (L : List Addr) (fa : List He.Fa) (fn : List He.DefD) (gt : List (Str × Str)) (gv : List He.FnW) (ex : PySem.W.Frag → Bool) : PySem.W.Hook where
  α := AlP
  obs := fun s => obsL L fa fn gt ex s.heap.get?
  val := fun _ => valP fn gv
  says := fun _ h => ∃ K : PySem.W.Frag, K.In h ∧ SaysP fa fn gt gv ex K
  of := fun _ _ e => ⟨_, He.frG_in, saysP_of e⟩
  keeps := fun _ _ _ ⟨K, hK, c⟩ k => ⟨K, PySem.W.Frag.In.keeps hK k, c⟩
theorem obsL_eq {L : List Addr} {fa : List He.Fa} {fn : List He.DefD} {gt : List (Str × Str)} {gv : List He.FnW} {ex : PySem.W.Frag → Bool} {g : Addr → Option Obj} {s : Shared} (h : ∀ a, g a = s.heap.get? a) : obsL L fa fn gt ex g = (hookL L fa fn gt gv ex).obs s := by
  have e : g = s.heap.get? := funext h
  rw [e] <;> rfl
end DL
set_option maxHeartbeats 4000000
namespace DL
open PySem PySem.Spec PyProof.Rows L2
/-! ## dicts whose keys are nested tuples -/
/-- what stands at b is the key k -/
def KeyB (K : PySem.W.Frag) (H : Hp) (k : NestedKey) (b : Addr) : Prop := k.depth ≤ 8 ∧ ∃ d, Rep K H d (.ref b) ∧ nkD d = some k
structure DN (K : PySem.W.Frag) (w : World) (H : Hp) (a : Addr) (xs : List (NestedKey × Addr × Value)) : Prop where
  at_ : H a = some (dN w a xs)
  keys : ∀ x ∈ xs, KeyB K H x.1 x.2.1
section
variable {X : Cx} {pins : List (Addr × Obj)} {σ : L2.St} {H : Hp} {s : Shared}
mutual
theorem nested_is (I : Inv X pins σ H s) : ∀ {d : D} {v : V} {u : Value} {k : NestedKey}, Rep X.K H d v → RelV v u → nkD d = some k → NestedIs s.heap k u
  | .non, v, u, k, h, r, e => by
    rw [rep_non h] at r
    cases (show u = Value.none from r)
    cases e
    exact .none
  | .bl b, v, u, k, h, r, e => by
    rw [rep_bl h] at r
    cases (show u = Value.bool b from r)
    cases e
    exact .bool rfl
  | .int i, v, u, k, h, r, e => by
    rw [rep_int h] at r
    obtain ⟨t, rfl⟩ := r
    cases e
    exact .int i t
  | .str x, v, u, k, h, r, e => by
    rw [rep_str h] at r
    obtain ⟨t, rfl⟩ := r
    cases e
    exact .text x t
  | .tup ds, v, u, k, h, r, e => by
    simp only [Rep] at h
    obtain ⟨a, vs, rfl, hT, hr⟩ := h
    cases (show u = Value.ref a from r)
    simp only [nkD] at e
    obtain ⟨ks, e1, rfl⟩ := Option.map_eq_some_iff.mp e
    obtain ⟨its, rv, ⟨o, ho, hc, n, hd⟩, _⟩ := I.tuple hT
    exact .tup ho hc hd (by simpa using nested_all I hr rv e1)
  | .lst _, _, _, _, _, _, e => by simp [nkD] at e
  | .obj _ _, _, _, _, _, _, e => by simp [nkD] at e
  | .dct _, _, _, _, _, _, e => by simp [nkD] at e
  | .scr _, _, _, _, _, _, e => by simp [nkD] at e
  | .ty _, _, _, _, _, _, e => by simp [nkD] at e
  | .cls _, _, _, _, _, _, e => by simp [nkD] at e
  | .exn _ _ _ _, _, _, _, _, _, e => by simp [nkD] at e
  | .dtn _ _, _, _, _, _, _, e => by simp [nkD] at e
theorem nested_all (I : Inv X pins σ H s) : ∀ {ds : List D} {vs : List V} {us : List Value} {ks : List NestedKey}, Reps X.K H ds vs → Vals vs us → nkDs ds = some ks → NestedAll s.heap ks us
  | [], vs, us, ks, h, r, e => by
    rw [reps_nil] at h
    subst h
    cases r
    simp only [nkDs, Option.some.injEq] at e
    subst e
    exact .nil
  | d :: ds, vs, us, ks, h, r, e => by
    simp only [Reps] at h
    obtain ⟨v, vs', rfl, h1, h2⟩ := h
    cases r with
    | cons r1 r2 =>
      simp only [nkDs] at e
      split at e
      · rename_i k ks' e1 e2
        cases e
        exact .cons (nested_is I h1 r1 e1) (nested_all I h2 r2 e2)
      · cases e
end
theorem keyB_is (I : Inv X pins σ H s) {k : NestedKey} {b : Addr} (h : KeyB X.K H k b) : (nestedKind X.prog X.w).is s.heap k b := by
  obtain ⟨hd, d, h1, h2⟩ := h
  exact ⟨nested_is I (u := .ref b) h1 rfl h2, hd⟩
variable {a b : Addr} {xs : List (NestedKey × Addr × Value)} {k : NestedKey} {A : Around} {E : Value → Shared → Prop}
theorem DN.raw (I : Inv X pins σ H s) (d : DN X.K X.w H a xs) : DtRaw X.w a xs s.heap := by
  have := I.hok a _ d.at_
  exact this.1
theorem DN.of (I : Inv X pins σ H s) (d : DN X.K X.w H a xs) : s.heap.DictOfH (nestedKind X.prog X.w) a xs := by
  obtain ⟨_, _, nd, o, es, ep, h1, h2, h3, h4⟩ := d.raw I
  exact ⟨o, es, ep, h1, h2, h3, h4, fun x hx => keyB_is I (d.keys x hx), nd⟩
theorem room_n {A : Around} (hu : A.units + 10 < cLine) : (nestedKind X.prog X.w).room A.in1 := by
  show A.units + 1 + 8 < cLine
  omega
/-- d[k], there -/
theorem n_getItem {Q : Value → Shared → Prop} (hu : A.units + 10 < cLine) (I : Inv X pins σ H s) (d : DN X.K X.w H a xs) (kb : KeyB X.K H k b) {p : Addr × Value} (hp : atKey xs k = some p) (h : ∀ s', Inv X pins σ H s' → Q p.2 s') :
    wpAny (model X.prog X.w) A (getItem (.ref a) (.ref b)) Q E s :=
  wpAny_getItem_heap (room_n hu) (keyB_is I kb) (d.of I) hp (h _ (I.tok _))
theorem n_in {Q : Value → Shared → Prop} (hu : A.units + 10 < cLine) (I : Inv X pins σ H s) (d : DN X.K X.w H a xs) (kb : KeyB X.K H k b) (h : ∀ s', Inv X pins σ H s' → Q (.bool (atKey xs k).isSome) s') :
    wpAny (model X.prog X.w) A (compareOp .In (.ref b) (.ref a)) Q E s :=
  wpAny_in_heap (room_n hu) (keyB_is I kb) (d.raw I).2.1 (d.of I) (h _ (I.tok _))
theorem n_notIn {Q : Value → Shared → Prop} (hu : A.units + 10 < cLine) (I : Inv X pins σ H s) (d : DN X.K X.w H a xs) (kb : KeyB X.K H k b) (h : ∀ s', Inv X pins σ H s' → Q (.bool (!(atKey xs k).isSome)) s') :
    wpAny (model X.prog X.w) A (compareOp .NotIn (.ref b) (.ref a)) Q E s :=
  wpAny_notIn_heap (room_n hu) (keyB_is I kb) (d.raw I).2.1 (d.of I) (h _ (I.tok _))
theorem storedH_len (xs : List (NestedKey × Addr × Value)) (k : NestedKey) (b : Addr) (r : Value) : (storedH xs k b r).length ≤ xs.length + 1 := by
  unfold storedH
  split
  · simp
  · simp
theorem mut_dN {w : World} : Mut (some (dN w a xs)) := True.intro
/-- a dict's object is made new -/
theorem dN_ok {P : Program} {w : World} {H' : Hp} {h' : Heap} (z : xs.length ≤ sizeLine) (hd : (a == sysModules) = false) (dd : h'.DictOfH (nestedKind P w) a xs) : ObjOk P w H' h' a (dN w a xs) := by
  obtain ⟨o, es, ep, h1, h2, h3, h4, _, nd⟩ := dd
  refine ⟨⟨z, hd, nd, o, es, ep, h1, h2, h3, h4⟩, ⟨o, h1⟩, ?_⟩
  rintro h1' h2' ⟨q1, q2, q3, o', es', ep', q4, q5, q6, q7⟩ k
  exact ⟨q1, q2, q3, o', es', ep', k _ q4, q5, q6, q7⟩
/-- d[k] = r -/
theorem n_setItem {r : Value} {Q : Unit → Shared → Prop} (hu : A.units + 10 < cLine) (I : Inv X pins σ H s) (d : DN X.K X.w H a xs) (kb : KeyB X.K H k b) (hz : xs.length < sizeLine) (h : ∀ s', Inv X pins σ (upd H a (dN X.w a (storedH xs k b r))) s' → Q () s') :
    wpAny (model X.prog X.w) A (setItem (.ref a) (.ref b) r) Q E s := by
  obtain ⟨z, hd, _⟩ := d.raw I
  refine wpAny_setItem_heap (hsz := z) (room_n hu) (keyB_is I kb) (d.of I) fun h' dd' hs => h _ ?_
  have he : ∃ q, h'.get? a = some q := let ⟨q, _, _, hq, _⟩ := dd'; ⟨q, hq⟩
  have hl := storedH_len xs k b r
  exact d_write I (by rw [d.at_]; exact mut_dN) hs he (dN_ok (by omega) hd dd')
/-- {} -/
theorem dN_empty {P : Program} {w : World} {H : Hp} (h : Heap) (hb : sysModules < h.objs.size) : ObjOk P w H (h.push { cls := .type "dict", data := .dict #[] }) h.objs.size (dN w h.objs.size []) :=
  dN_ok (Nat.zero_le _) (beq_eq_false_iff_ne.mpr (Ne.symm (Nat.ne_of_lt hb))) (Heap.DictOfH.new h)
def tDNewN (w : World) : TE := fun _ H Q => ∀ p, H p = none → Q (.ref p) (upd H p (dN w p []))
theorem pe_dnewN {pos : Pos} : PE X (.Dict [] [] pos) (tDNewN X.w) := ⟨fun pins s σ H Q I h =>
  wpAny_Dict_empty ⟨.ref s.heap.objs.size, _, I.laid (a := s.heap.objs.size) (o := dN X.w s.heap.objs.size []) (t' := s.toks) (fun _ _ q => Heap.get?_push_of_some _ q) (Nat.le_refl _) (dN_empty s.heap I.big), rfl, h _ (I.hok.fresh (Nat.le_refl _))⟩⟩
end
/-! ### by data -/
def valN {α : Type} : List (D × α) → NestedKey → Option α
  | [], _ => none
  | (k, v) :: r, n => if nkD k = some n then some v else valN r n
def putN {α : Type} (kd : D) (n : NestedKey) (v : α) : List (D × α) → List (D × α)
  | [] => [(kd, v)]
  | (k, u) :: r => if nkD k = some n then (k, v) :: r else (k, u) :: putN kd n v r
def keyD : Va → Option NestedKey
  | .d (.tup ds) => (match nkD (.tup ds) with
    | some k => if k.depth ≤ 8 then some k else none
    | none => none)
  | _ => none
def asN (m : Mu) : Va → Option (World × List (D × Va))
  | .l n => (match m[n]? with
    | some (some (.dtn w kvs)) => some (w, kvs)
    | _ => none)
  | .d (.dtn w kvs) => some (w, kvs.map fun p => (p.1, .d p.2))
  | _ => none
section
variable {K : PySem.W.Frag} {Hs H Hs1 H1 : Hp} {rh : List Addr} {W : WX} {sg : St2} {et : Env} {m : Mu} {x y : Va} {v u : V}
theorem atKey_cons {α : Type} [DecidableEq α] (z : α × Addr × Value) (xs : List (α × Addr × Value)) (k : α) : atKey (z :: xs) k = if z.1 = k then some z.2 else atKey xs k := by
  unfold atKey
  rw [List.find?_cons]
  by_cases h : z.1 = k
  · simp [h]
  · simp [h]
theorem repAX_get : ∀ {kvs : List (D × Va)} {xs : List (NestedKey × Addr × Value)} (k : NestedKey), RepAX K Hs rh kvs xs → (match atKey xs k with
    | some p => ∃ d z, valN kvs k = some d ∧ RepA K Hs rh d z ∧ RelV z p.2
    | none => valN kvs k = none)
  | [], xs, k, h => by
    rw [show xs = [] from h]
    rfl
  | (d, v) :: kvs, xs, k, ⟨nk, b, u, z, r, e, e1, e2, e3, e4, e5, e6⟩ => by
    subst e
    rw [atKey_cons]
    unfold valN
    by_cases h : nk = k
    · subst h
      rw [if_pos rfl, if_pos e1]
      exact ⟨v, z, rfl, e4, e5⟩
    · have h2 : ¬ nkD d = some k := fun q => h (by rw [e1] at q; exact Option.some.inj q)
      rw [if_neg h, if_neg h2]
      exact repAX_get k e6
theorem repAX_len : ∀ {kvs : List (D × Va)} {xs : List (NestedKey × Addr × Value)}, RepAX K Hs rh kvs xs → xs.length = kvs.length
  | [], xs, h => by rw [show xs = [] from h]; rfl
  | (d, v) :: kvs, xs, ⟨nk, b, u, z, r, e, _, _, _, _, _, e6⟩ => by
    subst e
    rw [List.length_cons, List.length_cons, repAX_len e6]
theorem repAX_keys (sm : Same Hs H) : ∀ {kvs : List (D × Va)} {xs : List (NestedKey × Addr × Value)}, RepAX K Hs rh kvs xs → ∀ z ∈ xs, KeyB K H z.1 z.2.1
  | [], xs, h, z, hz => by rw [show xs = [] from h] at hz; cases hz
  | (d, v) :: kvs, xs, ⟨nk, b, u, y, r, e, e1, e2, e3, _, _, e6⟩, z, hz => by
    subst e
    rcases List.mem_cons.mp hz with rfl | hz
    · exact ⟨e2, d, e3.mono sm, e1⟩
    · exact repAX_keys sm e6 z hz
theorem repX_ax : ∀ {kvs : List (D × D)} {xs : List (NestedKey × Addr × Value)}, RepX K Hs kvs xs → RepAX K Hs rh (kvs.map fun p => (p.1, Va.d p.2)) xs
  | [], xs, h => by
    simp only [RepX] at h
    exact h
  | (k, d) :: kvs, xs, h => by
    simp only [RepX] at h
    obtain ⟨nk, b, u, v, r, e1, e2, e3, e4, e5, e6, e7⟩ := h
    exact ⟨nk, b, u, v, r, e1, e2, e3, e4, e5, e6, repX_ax e7⟩
theorem storedH_cons (z : NestedKey × Addr × Value) (xs : List (NestedKey × Addr × Value)) (k : NestedKey) (b : Addr) (r : Value) (nd : k ∉ xs.map (·.1) ∨ z.1 ≠ k) : storedH (z :: xs) k b r = if z.1 = k then (z.1, z.2.1, r) :: xs else z :: storedH xs k b r := by
  unfold storedH
  rw [atKey_cons]
  by_cases h : z.1 = k
  · rw [if_pos h, if_pos h]
    simp only [Option.isSome_some, if_true, List.map_cons]
    have hp : putAt k r z = (z.1, z.2.1, r) := by
      unfold putAt
      simp [h]
    have hr : xs.map (putAt k r) = xs := by
      rcases nd with nd | nd
      · rw [List.map_congr_left (g := id), List.map_id]
        intro q hq
        have : q.1 ≠ k := fun e => nd (by rw [← e]; exact List.mem_map.mpr ⟨q, hq, rfl⟩)
        unfold putAt
        simp [this]
      · exact absurd h nd
    rw [hp, hr]
  · rw [if_neg h, if_neg h]
    have hp : putAt k r z = z := by
      unfold putAt
      simp [h]
    by_cases q : (atKey xs k).isSome = true
    · rw [if_pos q, if_pos q, List.map_cons, hp]
    · rw [if_neg q, if_neg q, List.cons_append]
theorem repAX_put {kd : D} {k : NestedKey} {b : Addr} {d : Va} {z : V} {r : Value} (hk : nkD kd = some k) (hd : k.depth ≤ 8) (hb : Rep K Hs kd (.ref b)) (hv : RepA K Hs rh d z) (hr : RelV z r) : ∀ {kvs : List (D × Va)} {xs : List (NestedKey × Addr × Value)}, (xs.map (·.1)).Nodup → RepAX K Hs rh kvs xs → RepAX K Hs rh (putN kd k d kvs) (storedH xs k b r)
  | [], xs, nd, h => by
    rw [show xs = [] from h]
    exact ⟨k, b, r, z, [], rfl, hk, hd, hb, hv, hr, rfl⟩
  | (k1, v) :: kvs, xs, nd, ⟨nk, b1, u, y, rr, e, e1, e2, e3, e4, e5, e6⟩ => by
    subst e
    rw [List.map_cons, List.nodup_cons] at nd
    rw [storedH_cons _ _ _ _ _ (by
      by_cases q : nk = k
      · left; rw [← q]; exact nd.1
      · right; exact q)]
    unfold putN
    by_cases q : nk = k
    · subst q
      rw [if_pos rfl, if_pos e1]
      exact ⟨nk, b1, r, z, rr, rfl, e1, e2, e3, hv, hr, e6⟩
    · have h2 : ¬ nkD k1 = some k := fun z => q (by rw [e1] at z; exact Option.some.inj z)
      rw [if_neg q, if_neg h2]
      exact ⟨nk, b1, u, y, _, rfl, e1, e2, e3, e4, e5, repAX_put hk hd hb hv hr nd.2 e6⟩
theorem storedH_nodup {xs : List (NestedKey × Addr × Value)} {k : NestedKey} {b : Addr} {r : Value} (nd : (xs.map (·.1)).Nodup) : ((storedH xs k b r).map (·.1)).Nodup := by
  cases q : atKey xs k with
  | some p =>
    rw [storedH_old q, List.map_map]
    have e : ((fun x => x.1) ∘ putAt k r : NestedKey × Addr × Value → NestedKey) = fun x => x.1 := by
      funext x
      show (putAt k r x).1 = x.1
      unfold putAt
      split <;> rfl
    rw [e]
    exact nd
  | none =>
    rw [storedH_new q, List.map_append, List.nodup_append]
    refine ⟨nd, by simp, fun x hx y hy e => ?_⟩
    have ey : y = k := by simpa using hy
    subst ey
    subst e
    obtain ⟨z, hz, e⟩ := List.mem_map.mp hx
    unfold atKey at q
    have := List.find?_eq_none.mp (Option.map_eq_none_iff.mp q) z hz
    simp [e] at this
theorem asN_rd (s : SC K Hs H rh m) (r : RepA K Hs rh x v) {w : World} {kvs : List (D × Va)} (e : asN m x = some (w, kvs)) : ∃ a xs, v = .ref a ∧ DN K w H a xs ∧ RepAX K Hs rh kvs xs := by
  cases x with
  | l n =>
    unfold asN at e
    dsimp only at e
    split at e
    · rename_i w' kvs' q
      cases e
      obtain ⟨a, e1, rfl⟩ := r
      obtain ⟨a', o, e2, e3, e4, xs, rfl, _, e5⟩ := s.cell n _ q
      rw [e1] at e2
      cases e2
      exact ⟨a, xs, rfl, ⟨e4, repAX_keys s.same e5⟩, e5⟩
    · cases e
  | d x =>
    cases x with
    | dtn w' kvs' =>
      cases e
      have r' : Rep K Hs (.dtn w kvs') v := r
      simp only [Rep] at r'
      obtain ⟨a, xs, rfl, e4, e5⟩ := r'
      exact ⟨a, xs, rfl, ⟨s.same _ _ e4, repAX_keys (rh := rh) s.same (repX_ax e5)⟩, repX_ax e5⟩
    | _ => cases e
theorem keyD_rd (s : SC K Hs H rh m) (r : RepA K Hs rh y u) {k : NestedKey} (e : keyD y = some k) : ∃ b kd, y = .d kd ∧ u = .ref b ∧ KeyB K H k b ∧ Rep K Hs kd (.ref b) ∧ nkD kd = some k ∧ k.depth ≤ 8 := by
  unfold keyD at e
  split at e
  · rename_i ds
    split at e
    · rename_i k' q
      split at e
      · rename_i hd
        cases e
        have r' : Rep K Hs (.tup ds) u := r
        have r2 := r'
        simp only [Rep] at r'
        obtain ⟨b, vs, rfl, _, _⟩ := r'
        exact ⟨b, _, rfl, rfl, ⟨hd, _, r2.mono s.same, q⟩, r2, q, hd⟩
      · cases e
    · cases e
  · cases e
end
theorem un10 {n : Nat} (h : n + 65 < cLine) : n + 10 < cLine := by omega
/-! ### rules -/
noncomputable def oInN (w : World) (neg : Bool) : Va → Va → Mu → R Va := fun x y m => match asN m y, keyD x with
  | some (w', kvs), some k => open Classical in if w' = w then .ok (.d (.bl (inG neg (valN kvs k).isSome))) m else .stuck
  | _, _ => .stuck
noncomputable def oGetN (w : World) : Va → Va → Mu → R Va := fun x y m => match asN m x, keyD y with
  | some (w', kvs), some k => (match valN kvs k with
    | some v => open Classical in if w' = w then .ok v m else .stuck
    | none => .stuck)
  | _, _ => .stuck
def xNewN (w : World) : Env → Mu → R Va := fun _ m => .ok (.l m.length) (m ++ [some (.dtn w [])])
noncomputable def oLenN (w : World) : List Va → Mu → R Va := fun as m => match as with
  | [x] => (match asN m x with
    | some (w', kvs) => open Classical in if w' = w then .ok (.d (.int kvs.length)) m else .stuck
    | none => .stuck)
  | _ => .stuck
section
variable {X : Cx} {W : WX}
theorem os_inN (hu : X.A.units + 10 < cLine) : OpS X (compareOp .In) (oInN X.w false) := by
  refine ⟨fun y x H Q => ∃ a xs b k, x = .ref a ∧ y = .ref b ∧ DN X.K X.w H a xs ∧ KeyB X.K H k b ∧ Q (.bl (atKey xs k).isSome) H, ?_, fun W Hs H rh sg et m x y u v Q s r1 r2 p => ?_⟩
  · rintro pins s σ H x y v u Q I rx ry ⟨a, xs, b, k, rfl, rfl, d, kb, q⟩
    cases (show v = Value.ref b from rx)
    cases (show u = Value.ref a from ry)
    exact n_in hu I d kb fun s' I' => ⟨.bl _, H, I', rfl, q⟩
  · unfold oInN at p
    split at p
    · rename_i w' kvs k e1 e2
      obtain ⟨a, xs, rfl, d, ax⟩ := asN_rd s.sc r2 e1
      obtain ⟨b, kd, _, rfl, kb, _⟩ := keyD_rd s.sc r1 e2
      split at p
      · rename_i hw
        subst hw
        refine ⟨a, xs, b, k, rfl, rfl, d, kb, ?_⟩
        have := repAX_get k ax
        cases q : atKey xs k with
        | none =>
          rw [q] at this
          rw [this] at p
          exact Post.ok_ p .refl s mk_bl
        | some z =>
          rw [q] at this
          obtain ⟨d', z', e, _, _⟩ := this
          rw [e] at p
          exact Post.ok_ p .refl s mk_bl
      · exact p.elim
    · exact p.elim
theorem os_notInN (hu : X.A.units + 10 < cLine) : OpS X (compareOp .NotIn) (oInN X.w true) := by
  refine ⟨fun y x H Q => ∃ a xs b k, x = .ref a ∧ y = .ref b ∧ DN X.K X.w H a xs ∧ KeyB X.K H k b ∧ Q (.bl (!(atKey xs k).isSome)) H, ?_, fun W Hs H rh sg et m x y u v Q s r1 r2 p => ?_⟩
  · rintro pins s σ H x y v u Q I rx ry ⟨a, xs, b, k, rfl, rfl, d, kb, q⟩
    cases (show v = Value.ref b from rx)
    cases (show u = Value.ref a from ry)
    exact n_notIn hu I d kb fun s' I' => ⟨.bl _, H, I', rfl, q⟩
  · unfold oInN at p
    split at p
    · rename_i w' kvs k e1 e2
      obtain ⟨a, xs, rfl, d, ax⟩ := asN_rd s.sc r2 e1
      obtain ⟨b, kd, _, rfl, kb, _⟩ := keyD_rd s.sc r1 e2
      split at p
      · rename_i hw
        subst hw
        refine ⟨a, xs, b, k, rfl, rfl, d, kb, ?_⟩
        have := repAX_get k ax
        cases q : atKey xs k with
        | none =>
          rw [q] at this
          rw [this] at p
          exact Post.ok_ p .refl s mk_bl
        | some z =>
          rw [q] at this
          obtain ⟨d', z', e, _, _⟩ := this
          rw [e] at p
          exact Post.ok_ p .refl s mk_bl
      · exact p.elim
    · exact p.elim
theorem se_newN {pos : Pos} : SE X W (.Dict [] [] pos) (xNewN X.w) := by
  refine ⟨_, pe_dnewN, fun Hs H rh sg et m Q s z p hp => ?_⟩
  unfold xNewN at z
  obtain ⟨c, x, e⟩ := s.sc.newCell (c := .dtn X.w []) (o := dN X.w p []) hp ⟨[], rfl, List.nodup_nil, rfl⟩
  exact z (.ref p) _ _ _ x (s.ext x c) ⟨p, e, rfl⟩
/-- d[k] -/
theorem pe_dgetN {o i : Expr} {pos : Pos} {td ty : TE} (hu : X.A.units + 10 < cLine) (ho : PE X o td) (hi : PE X i ty) (hs : NoSl i) : PE X (.Subscript o i pos) (tOp (fun x y H Q => ∃ a xs b k p z, x = .ref a ∧ y = .ref b ∧ DN X.K X.w H a xs ∧ KeyB X.K H k b ∧ atKey xs k = some p ∧ RelV z p.2 ∧ Q z H) td ty) := by
  refine ⟨fun pins s σ H Q I h => ?_⟩
  refine subD_of PySem.F.slot_dict_getitem.lookup hs (thn (ho.run pins s σ H _ I h) fun u s1 ⟨x, H1, I1, rx, q1⟩ => thn (hi.run pins s1 σ H1 _ I1 q1) fun iv s2 ⟨y, H2, I2, ry, a, xs, b, k, p, z, ex, ey, d, kb, hp, rz, q2⟩ => ?_)
  subst ex ey
  cases (show u = Value.ref a from rx)
  cases (show iv = Value.ref b from ry)
  exact ⟨(d.of I2).typeIs, n_getItem hu I2 d kb hp fun s3 I3 => ⟨z, H2, I3, rz, q2⟩⟩
theorem se_getN {o i : Expr} {pos : Pos} {f g : Env → Mu → R Va} (hu : X.A.units + 10 < cLine) (ho : SE X W o f) (hi : SE X W i g) (hs : NoSl i) : SE X W (.Subscript o i pos) (xBin (oGetN X.w) f g) := by
  obtain ⟨ta, ha, ra⟩ := ho
  obtain ⟨tb, hb, rb⟩ := hi
  refine ⟨_, pe_dgetN hu ha hb hs, fun Hs H rh sg et m Q s p => bin_read (r := fun x y H Q => ∃ a xs b k p z, x = .ref a ∧ y = .ref b ∧ DN X.K X.w H a xs ∧ KeyB X.K H k b ∧ atKey xs k = some p ∧ RelV z p.2 ∧ Q z H) ra rb s (fun W Hs H rh sg et m x y u v Q s r1 r2 p => ?_) p⟩
  unfold oGetN at p
  split at p
  · rename_i w' kvs k e1 e2
    obtain ⟨a, xs, rfl, d, ax⟩ := asN_rd s.sc r1 e1
    obtain ⟨b, kd, _, rfl, kb, _⟩ := keyD_rd s.sc r2 e2
    split at p
    · rename_i v e3
      split at p
      · rename_i hw
        subst hw
        have := repAX_get k ax
        cases q : atKey xs k with
        | none => rw [q] at this; rw [this] at e3; cases e3
        | some z =>
          rw [q] at this
          obtain ⟨d', z', e, rz, rv⟩ := this
          rw [e3] at e
          cases e
          exact ⟨a, xs, b, k, z, z', rfl, rfl, d, kb, q, rv, Post.ok_ p .refl s rz⟩
      · exact p.elim
    · exact p.elim
  · exact p.elim
/-- d[k] = v -/
theorem set_dN (hu : X.A.units + 10 < cLine) : PSet X (fun o i v H Q => ∃ a xs b k, o = .ref a ∧ i = .ref b ∧ DN X.K X.w H a xs ∧ KeyB X.K H k b ∧ xs.length < sizeLine ∧ ∀ r, RelV v r → Q (upd H a (dN X.w a (storedH xs k b r)))) := by
  rintro pins s σ H o i v ov iv u Q I r1 r2 r3 ⟨a, xs, b, k, rfl, rfl, d, kb, hz, q⟩
  cases (show ov = Value.ref a from r1)
  cases (show iv = Value.ref b from r2)
  exact n_setItem hu I d kb hz fun s' I' => ⟨_, I', q u r3⟩
noncomputable def gSubN (w : World) (fo fi : Env → Mu → R Va) : Va → Env → Mu → RS := fun v e m => match fo e m with
  | .ok x m => (match fi e m with
    | .ok y m => (match x, y with
      | .l n, .d kd => (match m[n]?, keyD (.d kd) with
        | some (some (.dtn w' kvs)), some k => open Classical in if w' = w ∧ kvs.length < sizeLine then .nx e (m.set n (some (.dtn w (putN kd k v kvs)))) else .stuck
        | _, _ => .stuck)
      | _, _ => .stuck)
    | _ => .stuck)
  | _ => .stuck
theorem sg_subN {o i : Expr} {tpos : Pos} {fo fi : Env → Mu → R Va} (hu : X.A.units + 10 < cLine) (ho : SE X (fun _ _ _ _ => False) o fo) (hi : SE X (fun _ _ _ _ => False) i fi)
    (pg : ∀ v, assign (.Subscript o i tpos) X.env v = (do let ov ← holding [v] (eval o X.env); let iv ← holding [v, ov] (eval i X.env); standAt tpos; holding [v, ov, iv] (setItem ov iv v); release [v, ov, iv] []) := by intro _; rfl) : SG X (.Subscript o i tpos) (gSubN X.w fo fi) := by
  obtain ⟨to, ho, ro⟩ := ho
  obtain ⟨ti, hi, ri⟩ := hi
  refine ⟨_, pg_sub ho hi (set_dN hu) pg, fun Hs H rh sg et m x v Q s r z => ?_⟩
  unfold gSubN at z
  refine ro Hs H rh sg et m _ s ?_
  cases q1 : fo et m with
  | ok o1 m1 =>
    rw [q1] at z
    intro u Hs1 H1 rh1 x1 s1 r1
    refine ri Hs1 H1 rh1 sg et m1 _ s1 ?_
    dsimp only at z
    cases q2 : fi et m1 with
    | ok i2 m2 =>
      rw [q2] at z
      intro w Hs2 H2 rh2 x2 s2 r2
      dsimp only at z
      split at z
      · rename_i n kd
        split at z
        · rename_i w' kvs k e ek
          split at z
          · rename_i hw
            obtain ⟨hw, hl⟩ := hw
            subst hw
            obtain ⟨a, o, e1, e2, e3, xs, rfl, nd, ax⟩ := s2.sc.cell n _ e
            obtain ⟨a', e1', rfl⟩ := r1.ext x2
            rw [e1] at e1'
            cases e1'
            obtain ⟨b, kd', ekd, rfl, kb, rkd, hk, hd⟩ := keyD_rd s2.sc r2 ek
            cases ekd
            have dn : DN X.K X.w H2 a xs := ⟨e3, repAX_keys s2.sc.same ax⟩
            have hxl : xs.length < sizeLine := by rw [repAX_len ax]; exact hl
            have rv : RepA X.K Hs2 rh2 x v := (r.ext x1).ext x2
            refine ⟨a, xs, b, k, rfl, rfl, dn, kb, hxl, fun rr hrr => ?_⟩
            obtain ⟨w1, w2⟩ := s2.sc.write (c := .dtn X.w (putN kd k x kvs)) (o := dN X.w a (storedH xs k b rr)) e e1 ⟨_, rfl, storedH_nodup nd, repAX_put hk hd rkd rv hrr nd ax⟩
            exact z sg _ _ _ ((x1.trans x2).trans w2) (s2.ext w2 w1)
          · exact z.elim
        · exact z.elim
      · exact z.elim
    | exc c d m2 => rw [q2] at z; exact z.elim
    | stuck => rw [q2] at z; exact z.elim
  | exc c d m1 => rw [q1] at z; exact z.elim
  | stuck => rw [q1] at z; exact z.elim
/-- len(d) -/
theorem n_len {pins : List (Addr × Obj)} {σ : L2.St} {H : Hp} {s : Shared} {a : Addr} {xs : List (NestedKey × Addr × Value)} {A : Around} {E : Value → Shared → Prop} {Q : Value → Shared → Prop} (I : Inv X pins σ H s) (d : DN X.K X.w H a xs) (h : ∀ t s', Inv X pins σ H s' → Q (.int xs.length t) s') : wpAny (model X.prog X.w) A (call (.builtin "len") [.ref a]) Q E s := by
  have raw := d.raw I
  obtain ⟨hz, hd, _⟩ := raw
  have hm : s.heap.DictKeyed (nestedKind X.prog X.w) a (pairsH xs) := ⟨xs, d.of I, rfl⟩
  have hl : (pairsH xs).length = xs.length := pairsH_length xs
  rw [sizeLine_eq] at hz
  refine PyProof.Rows.call_len_slot (n := xs.length) hm.typeIs F.slot_dict_len (fun Q' hq => len_keyed hd hm (by rw [hl]; exact hq)) (by omega) (by omega) ?_
  exact h _ _ (I.tok _)
theorem cs_lenN : CalS X (.builtin "len") (oLenN X.w) := by
  refine ⟨fun vs H Q => ∃ a xs, vs = [.ref a] ∧ DN X.K X.w H a xs ∧ Q (.int xs.length) H, ?_, fun W Hs H rh sg et m as vs Q s r p => ?_⟩
  · rintro pins s σ H xs us Q I r ⟨a, ys, rfl, d, q⟩
    cases r with
    | cons r1 r2 =>
      cases r2
      cases (show _ = Value.ref a from r1)
      exact n_len I d fun t s' I' => ⟨.int ys.length, H, I', ⟨t, rfl⟩, q⟩
  · unfold oLenN at p
    split at p
    · rename_i x
      obtain ⟨v, rfl, r1⟩ := as1 r
      split at p
      · rename_i w' kvs e
        split at p
        · rename_i hw
          subst hw
          obtain ⟨a, xs, rfl, d, ax⟩ := asN_rd s.sc r1 e
          refine ⟨a, xs, rfl, d, ?_⟩
          rw [repAX_len ax]
          exact Post.ok_ p .refl s mk_int
        · exact p.elim
      · exact p.elim
    · exact p.elim
end
end DL
set_option maxHeartbeats 4000000
namespace DL
open PySem PySem.Spec PyProof.Rows L2
/-! ## Reckoning from the left: what comes later is named, and looked at when its turn comes -/
section
variable {α : Type} {o o' : Va → Va → Mu → R Va} {f f' g h : Env → Mu → R Va} {p q r : Env → Mu → R Bool} {u v : Env → Mu → RS} {ga : Env → Mu → R (List Va)} {et e : Env} {m : Mu} {x y z : Va} {b : Bool} {as : List Va} {t : Va → Env → Mu → RS}
def kBin (o : Va → Va → Mu → R Va) (g : Env → Mu → R Va) (et : Env) : Va → Mu → R Va := fun x m => (g et m).bind (o x)
@[simp] theorem k_bin : kBin o g et x m = (g et m).bind (o x) := rfl
@[simp] theorem s_bin : xBin o f g et m = (f et m).bind (kBin o g et) := rfl
def kCons2 (d : Va) : List Va → Mu → R (List Va) := fun ds m => .ok (d :: ds) m
@[simp] theorem k_cons2 : kCons2 x as m = .ok (x :: as) m := rfl
def kCons (g : Env → Mu → R (List Va)) (et : Env) : Va → Mu → R (List Va) := fun d m => (g et m).bind (kCons2 d)
@[simp] theorem k_cons : kCons ga et x m = (ga et m).bind (kCons2 x) := rfl
@[simp] theorem s_cons : xCons f ga et m = (f et m).bind (kCons ga et) := rfl
def kNotT : Bool → Mu → R Bool := fun b m => .ok (!b) m
@[simp] theorem k_notT : kNotT b m = .ok (!b) m := rfl
@[simp] theorem s_notT : xNotT p et m = (p et m).bind kNotT := rfl
def kAndT (q : Env → Mu → R Bool) (et : Env) : Bool → Mu → R Bool := fun b m => if b = true then q et m else .ok false m
@[simp] theorem k_andT : kAndT q et b m = if b = true then q et m else .ok false m := rfl
@[simp] theorem s_andT : xAndT p q et m = (p et m).bind (kAndT q et) := rfl
def kOrT (q : Env → Mu → R Bool) (et : Env) : Bool → Mu → R Bool := fun b m => if b = true then .ok true m else q et m
@[simp] theorem k_orT : kOrT q et b m = if b = true then .ok true m else q et m := rfl
@[simp] theorem s_orT : xOrT p q et m = (p et m).bind (kOrT q et) := rfl
def kIfT (q r : Env → Mu → R Bool) (et : Env) : Bool → Mu → R Bool := fun b m => if b = true then q et m else r et m
@[simp] theorem k_ifT : kIfT q r et b m = if b = true then q et m else r et m := rfl
@[simp] theorem s_ifT : xIfT p q r et m = (p et m).bind (kIfT q r et) := rfl
def kNot2 : Bool → Mu → R Va := fun b m => .ok (.d (.bl (!b))) m
@[simp] theorem k_not2 : kNot2 b m = .ok (.d (.bl (!b))) m := rfl
def kNot : Va → Mu → R Va := fun x m => (toB x m).bind kNot2
@[simp] theorem k_not : kNot x m = (toB x m).bind kNot2 := rfl
@[simp] theorem s_not : xNot f et m = (f et m).bind kNot := rfl
def kAnd2 (g : Env → Mu → R Va) (et : Env) : Bool → Mu → R Va := fun b m => if b = true then g et m else .ok (.d (.bl false)) m
@[simp] theorem k_and2 : kAnd2 g et b m = if b = true then g et m else .ok (.d (.bl false)) m := rfl
def kAnd (g : Env → Mu → R Va) (et : Env) : Va → Mu → R Va := fun x m => (toB x m).bind (kAnd2 g et)
@[simp] theorem k_and : kAnd g et x m = (toB x m).bind (kAnd2 g et) := rfl
@[simp] theorem s_and : xAnd f g et m = (f et m).bind (kAnd g et) := rfl
def kOr2 (g : Env → Mu → R Va) (et : Env) : Bool → Mu → R Va := fun b m => if b = true then .ok (.d (.bl true)) m else g et m
@[simp] theorem k_or2 : kOr2 g et b m = if b = true then .ok (.d (.bl true)) m else g et m := rfl
def kOr (g : Env → Mu → R Va) (et : Env) : Va → Mu → R Va := fun x m => (toB x m).bind (kOr2 g et)
@[simp] theorem k_or : kOr g et x m = (toB x m).bind (kOr2 g et) := rfl
@[simp] theorem s_or : xOr f g et m = (f et m).bind (kOr g et) := rfl
def kIf (f g : Env → Mu → R Va) (et : Env) : Bool → Mu → R Va := fun b m => if b = true then f et m else g et m
@[simp] theorem k_if : kIf f g et b m = if b = true then f et m else g et m := rfl
@[simp] theorem s_if : xIf p f g et m = (p et m).bind (kIf f g et) := rfl
def kzIf (u v : Env → Mu → RS) (e : Env) : Bool → Mu → RS := fun b m => if b = true then u e m else v e m
@[simp] theorem k_zif : kzIf u v e b m = if b = true then u e m else v e m := rfl
@[simp] theorem s_zif : zIf p u v e m = (p e m).toS e (kzIf u v e) := rfl
def kRet (e : Env) : Va → Mu → RS := fun d m => .ret d e m
@[simp] theorem k_ret : kRet e x m = .ret x e m := rfl
@[simp] theorem s_ret : zRet f e m = (f e m).toS e (kRet e) := rfl
def kExpr (e : Env) : Va → Mu → RS := fun _ m => .nx e m
@[simp] theorem k_expr : kExpr e x m = .nx e m := rfl
@[simp] theorem s_expr : zExpr f e m = (f e m).toS e (kExpr e) := rfl
def kAsg (t : Va → Env → Mu → RS) (e : Env) : Va → Mu → RS := fun d m => (t d e m).stored RS.nx
@[simp] theorem k_asg : kAsg t e x m = (t x e m).stored RS.nx := rfl
@[simp] theorem s_asg : zAsg f t e m = (f e m).toS e (kAsg t e) := rfl
def kCallP (n : Nat) (F : List D → R0) : List Va → Mu → R Va := fun as m => if as.length = n then liftP F as m else .stuck
@[simp] theorem k_callP {n F} : kCallP n F as m = if as.length = n then liftP F as m else .stuck := rfl
@[simp] theorem s_callP {n F} : xCallP n F ga et m = (ga et m).bind (kCallP n F) := rfl
def kCallS (n : Nat) (F : List Va → Mu → R Va) : List Va → Mu → R Va := fun as m => if as.length = n then F as m else .stuck
@[simp] theorem k_callS {n F} : kCallS n F as m = if as.length = n then F as m else .stuck := rfl
@[simp] theorem s_callS {n F} : xCallS n F ga et m = (ga et m).bind (kCallS n F) := rfl
def kCh4 (h : Env → Mu → R Va) (o' : Va → Va → Mu → R Va) (y : Va) (et : Env) : Bool → Mu → R Va := fun b m => if b = true then (h et m).bind (o' y) else .ok (.d (.bl false)) m
@[simp] theorem k_ch4 : kCh4 h o' y et b m = if b = true then (h et m).bind (o' y) else .ok (.d (.bl false)) m := rfl
def kCh3 (h : Env → Mu → R Va) (o' : Va → Va → Mu → R Va) (y : Va) (et : Env) : Va → Mu → R Va := fun z m => (toB z m).bind (kCh4 h o' y et)
@[simp] theorem k_ch3 : kCh3 h o' y et z m = (toB z m).bind (kCh4 h o' y et) := rfl
def kCh2 (h : Env → Mu → R Va) (o o' : Va → Va → Mu → R Va) (x : Va) (et : Env) : Va → Mu → R Va := fun y m => (o x y m).bind (kCh3 h o' y et)
@[simp] theorem k_ch2 : kCh2 h o o' x et y m = (o x y m).bind (kCh3 h o' y et) := rfl
def kCh (g h : Env → Mu → R Va) (o o' : Va → Va → Mu → R Va) (et : Env) : Va → Mu → R Va := fun x m => (g et m).bind (kCh2 h o o' x et)
@[simp] theorem k_ch : kCh g h o o' et x m = (g et m).bind (kCh2 h o o' x et) := rfl
@[simp] theorem s_ch : xChain o o' f g h et m = (f et m).bind (kCh g h o o' et) := rfl
def oCat (x : Va) : Va → Mu → R (List D) := fun y m => match asL m x, asL m y with
  | some a, some b => if (noScr x && noScr y && decide (a.length + b.length ≤ sizeLine)) = true then .ok (a ++ b) m else .stuck
  | _, _ => .stuck
@[simp] theorem o_cat {xs ys : List D} (h1 : asL m x = some xs) (h2 : asL m y = some ys) : oCat x y m = if (noScr x && noScr y && decide (xs.length + ys.length ≤ sizeLine)) = true then .ok (xs ++ ys) m else .stuck := by
  unfold oCat
  rw [h1, h2]
@[simp] theorem o_catD {xs ys : List D} : oCat (.d (.lst xs)) (.d (.lst ys)) m = if xs.length + ys.length ≤ sizeLine then .ok (xs ++ ys) m else .stuck := by
  simp [oCat]
def kCat (g : Env → Mu → R Va) (et : Env) : Va → Mu → R (List D) := fun x m => (g et m).bind (oCat x)
@[simp] theorem k_cat : kCat g et x m = (g et m).bind (oCat x) := rfl
@[simp] theorem s_cat : xCat f g et m = (f et m).bind (kCat g et) := rfl
def kLst : List Va → Mu → R (List D) := fun as m => match datas as with
  | some ds => if ds.length ≤ sizeLine then .ok ds m else .stuck
  | none => .stuck
@[simp] theorem k_lst {ds : List D} (h1 : datas as = some ds) : kLst as m = if ds.length ≤ sizeLine then .ok ds m else .stuck := by
  unfold kLst
  rw [h1]
@[simp] theorem s_lst : xLst ga et m = (ga et m).bind kLst := rfl
def kTup : List Va → Mu → R Va := fun as m => match datas as with
  | some ds => if ds.length ≤ sizeLine then .ok (.d (.tup ds)) m else .stuck
  | none => .stuck
@[simp] theorem k_tup {ds : List D} (h1 : datas as = some ds) : kTup as m = if ds.length ≤ sizeLine then .ok (.d (.tup ds)) m else .stuck := by
  unfold kTup
  rw [h1]
@[simp] theorem s_tup : xTup ga et m = (ga et m).bind kTup := rfl
def kFrz : List D → Mu → R Va := fun ds m => .ok (.d (.lst ds)) m
@[simp] theorem k_frz {ds} : kFrz ds m = .ok (.d (.lst ds)) m := rfl
@[simp] theorem s_frz {fl} : xFrz fl et m = (fl et m).bind kFrz := rfl
def kCel : List D → Mu → R Va := fun ds m => .ok (.l m.length) (m ++ [some (.lst ds)])
@[simp] theorem k_cel {ds} : kCel ds m = .ok (.l m.length) (m ++ [some (.lst ds)]) := rfl
@[simp] theorem s_cel {fl} : xCel fl et m = (fl et m).bind kCel := rfl
def kPart : Va → Mu → R (Option Int) := fun x m => match x with
  | .d (.int i) => .ok (some i) m
  | _ => .stuck
@[simp] theorem k_part {i} : kPart (.d (.int i)) m = .ok (some i) m := rfl
@[simp] theorem s_part : xPart f et m = (f et m).bind kPart := rfl
def kSlL3 (x : Va) (l : Option Int) : Option Int → Mu → R (List D) := fun u m => match asL m x with
  | some ds => .ok (cutD ds l u) m
  | none => .stuck
@[simp] theorem k_slL3 {l u ds} (h1 : asL m x = some ds) : kSlL3 x l u m = .ok (cutD ds l u) m := by
  unfold kSlL3
  rw [h1]
def kSlL2 (fh : Env → Mu → R (Option Int)) (x : Va) (et : Env) : Option Int → Mu → R (List D) := fun l m => (fh et m).bind (kSlL3 x l)
@[simp] theorem k_slL2 {fh l} : kSlL2 fh x et l m = (fh et m).bind (kSlL3 x l) := rfl
def kSlL (fo fh : Env → Mu → R (Option Int)) (et : Env) : Va → Mu → R (List D) := fun x m => (fo et m).bind (kSlL2 fh x et)
@[simp] theorem k_slL {fo fh} : kSlL fo fh et x m = (fo et m).bind (kSlL2 fh x et) := rfl
@[simp] theorem s_slL {fo fh} : xSlL f fo fh et m = (f et m).bind (kSlL fo fh et) := rfl
def kSl3 (x : Va) (l : Option Int) : Option Int → Mu → R Va := fun u m => match x with
  | .d (.tup ds) => .ok (.d (.tup (cutD ds l u))) m
  | .d (.str z) => if z.length ≤ sizeLine then .ok (.d (.str (cutS z l u))) m else .stuck
  | _ => .stuck
@[simp] theorem k_sl3 {l u ds} : kSl3 (.d (.tup ds)) l u m = .ok (.d (.tup (cutD ds l u))) m := rfl
@[simp] theorem k_sl3s {l u s} : kSl3 (.d (.str s)) l u m = if s.length ≤ sizeLine then .ok (.d (.str (cutS s l u))) m else .stuck := rfl
def kSl2 (fh : Env → Mu → R (Option Int)) (x : Va) (et : Env) : Option Int → Mu → R Va := fun l m => (fh et m).bind (kSl3 x l)
@[simp] theorem k_sl2 {fh l} : kSl2 fh x et l m = (fh et m).bind (kSl3 x l) := rfl
def kSl (fo fh : Env → Mu → R (Option Int)) (et : Env) : Va → Mu → R Va := fun x m => (fo et m).bind (kSl2 fh x et)
@[simp] theorem k_sl {fo fh} : kSl fo fh et x m = (fo et m).bind (kSl2 fh x et) := rfl
@[simp] theorem s_sl {fo fh} : xSl f fo fh et m = (f et m).bind (kSl fo fh et) := rfl
def kBM (chk : Va → Mu → Bool) (o : Va → List Va → Mu → R α) (fa : Env → Mu → R (List Va)) (et : Env) : Va → Mu → R α := fun x m => if chk x m = true then (fa et m).bind (o x) else .stuck
@[simp] theorem k_bm {chk} {o : Va → List Va → Mu → R α} : kBM chk o ga et x m = if chk x m = true then (ga et m).bind (o x) else .stuck := rfl
@[simp] theorem s_bm {chk} {o : Va → List Va → Mu → R α} : xBM chk o f ga et m = (f et m).bind (kBM chk o ga et) := rfl
def kAug (i : Nat) (a : Int) (e : Env) : Va → Mu → RS := fun y m => match y with
  | .d (.int b) => .nx (e.set i (some (.d (.int (a + b))))) m
  | _ => .stuck
@[simp] theorem k_aug {i a b} : kAug i a e (.d (.int b)) m = .nx (e.set i (some (.d (.int (a + b))))) m := rfl
@[simp] theorem s_aug {i} : zAug i f e m = match e[i]? with
    | some (some (.d (.int a))) => (f e m).toS e (kAug i a e)
    | _ => .stuck := rfl
def kSeq : Va → Mu → R (List Va) := fun x m => match x with
  | .d (.lst ds) => .ok (ds.map .d) m
  | .d (.scr ns) => .ok (ns.map fun n => .d (.int n)) m
  | .d (.tup ds) => .ok (ds.map .d) m
  | _ => .stuck
@[simp] theorem k_seqL {ds} : kSeq (.d (.lst ds)) m = .ok (ds.map .d) m := rfl
@[simp] theorem k_seqS {ns} : kSeq (.d (.scr ns)) m = .ok (ns.map fun n => .d (.int n)) m := rfl
@[simp] theorem k_seqT {ds} : kSeq (.d (.tup ds)) m = .ok (ds.map .d) m := rfl
@[simp] theorem s_seq : iSeq f et m = (f et m).bind kSeq := rfl
def kEn : Va → Mu → R (List Va) := fun x m => match x with
  | .d (.lst ds) => .ok (enD ds) m
  | .d (.tup ds) => .ok (enD ds) m
  | _ => .stuck
@[simp] theorem k_enL {ds} : kEn (.d (.lst ds)) m = .ok (enD ds) m := rfl
@[simp] theorem k_enT {ds} : kEn (.d (.tup ds)) m = .ok (enD ds) m := rfl
@[simp] theorem s_en : iEn f et m = (f et m).bind kEn := rfl
def kzFor (t : Va → Env → Mu → RS) (u : Env → Mu → RS) (e : Env) : List Va → Mu → RS := fun xs m => dFor t u xs e m
@[simp] theorem k_zfor : kzFor t u e as m = dFor t u as e m := rfl
@[simp] theorem s_zfor {fi} : zFor fi t u e m = (fi e m).toS e (kzFor t u e) := rfl
def kLoop (u : Env → Mu → RS) (k : Env → Mu → RS) : Env → Mu → RS := fun e m => (u e m).loop k
@[simp] theorem k_loop : kLoop u v e m = (u e m).loop v := rfl
@[simp] theorem s_for0 : dFor t u [] e m = .nx e m := rfl
@[simp] theorem s_for1 {xs} : dFor t u (x :: xs) e m = (t x e m).stored (kLoop u (dFor t u xs)) := rfl
def kFld (c f : Str) : Va → Mu → R Va := fun x m => match fldA m c f x with
  | some y => .ok y m
  | none => .stuck
@[simp] theorem k_fld {c n} (h : fldA m c n x = some y) : kFld c n x m = .ok y m := by
  unfold kFld
  rw [h]
@[simp] theorem s_fld {c n} : xFld c n f et m = (f et m).bind (kFld c n) := rfl
def kzFld2 (c f : Str) (e : Env) (y : Va) : Va → Mu → RS := fun x m => match x with
  | .l n => (match m[n]? with
    | some (some (.obj c' fs)) => if c' = c ∧ fs.length < 1000 then .nx e (m.set n (some (.obj c (putA f y fs)))) else .stuck
    | _ => .stuck)
  | _ => .stuck
@[simp] theorem k_zfld2 {c n i} : kzFld2 c n e y (.l i) m = match m[i]? with
    | some (some (.obj c' fs)) => if c' = c ∧ fs.length < 1000 then .nx e (m.set i (some (.obj c (putA n y fs)))) else .stuck
    | _ => .stuck := rfl
def kzFld (c f : Str) (fo : Env → Mu → R Va) (e : Env) : Va → Mu → RS := fun y m => (fo e m).toS e (kzFld2 c f e y)
@[simp] theorem k_zfld {c n} : kzFld c n g e y m = (g e m).toS e (kzFld2 c n e y) := rfl
@[simp] theorem s_zfld {c n} : zFld c n g f e m = (f e m).toS e (kzFld c n g e) := rfl
def kNeg : Va → Mu → R Va := fun x m => match x with
  | .d (.int i) => .ok (.d (.int (-i))) m
  | _ => .stuck
@[simp] theorem k_neg {i} : kNeg (.d (.int i)) m = .ok (.d (.int (-i))) m := rfl
@[simp] theorem s_neg : xNeg f et m = (f et m).bind kNeg := rfl
def kStar2 (ds : List D) : List Va → Mu → R (List Va) := fun as m => .ok (ds.map .d ++ as) m
@[simp] theorem k_star2 {ds} : kStar2 ds as m = .ok (ds.map .d ++ as) m := rfl
def kStar (g : Env → Mu → R (List Va)) (et : Env) : Va → Mu → R (List Va) := fun x m => match x with
  | .d (.tup ds) => (g et m).bind (kStar2 ds)
  | _ => .stuck
@[simp] theorem k_star {ds} : kStar ga et (.d (.tup ds)) m = (ga et m).bind (kStar2 ds) := rfl
@[simp] theorem s_star : xStar f ga et m = (f et m).bind (kStar ga et) := rfl
def kRaise (c : Str) (e : Env) : Va → Mu → RS := fun v m => match v with
  | .d d => .exc c d e m
  | .l _ => .stuck
@[simp] theorem k_raise {c d} : kRaise c e (.d d) m = .exc c d e m := rfl
@[simp] theorem s_raise {c} : zRaise c f e m = (f e m).toS e (kRaise c e) := rfl
def kLc (vs : List Nat) (t : Va → Env → Env) (p : Env → Mu → R Bool) (f : Env → Mu → R Va) (et : Env) : List Va → Mu → R (List D) := fun xs m => dLc t p f (wipeD et vs) xs m []
@[simp] theorem k_lc {vs tt xs} : kLc vs tt p f et xs m = dLc tt p f (wipeD et vs) xs m [] := rfl
@[simp] theorem s_lc {fi vs tt} : xLc fi vs tt p f et m = (fi et m).bind (kLc vs tt p f et) := rfl
/-- a comprehension's turn -/
def kLc3 (t : Va → Env → Env) (p : Env → Mu → R Bool) (f : Env → Mu → R Va) (et : Env) (xs : List Va) (acc : List D) : Va → Mu → R (List D) := fun y m => match y with
  | .d d => if acc.length < sizeLine then dLc t p f et xs m (acc ++ [d]) else .stuck
  | _ => .stuck
@[simp] theorem k_lc3 {tt xs acc d} : kLc3 tt p f et xs acc (.d d) m = if acc.length < sizeLine then dLc tt p f et xs m (acc ++ [d]) else .stuck := rfl
def kLc2 (t : Va → Env → Env) (p : Env → Mu → R Bool) (f : Env → Mu → R Va) (et : Env) (x : Va) (xs : List Va) (acc : List D) : Bool → Mu → R (List D) := fun b m => match b with
  | true => (noX (f (t x et) m)).bind (kLc3 t p f et xs acc)
  | false => dLc t p f et xs m acc
@[simp] theorem k_lc2t {tt xs acc} : kLc2 tt p f et x xs acc true m = (noX (f (tt x et) m)).bind (kLc3 tt p f et xs acc) := rfl
@[simp] theorem k_lc2f {tt xs acc} : kLc2 tt p f et x xs acc false m = dLc tt p f et xs m acc := rfl
@[simp] theorem s_lc0 {tt acc} : dLc tt p f et [] m acc = .ok acc m := rfl
@[simp] theorem s_lc1 {tt xs acc} : dLc tt p f et (x :: xs) m acc = (noX (p (tt x et) m)).bind (kLc2 tt p f et x xs acc) := by
  show (noX (p (tt x et) m)).bind _ = _
  congr 1
end
end DL
set_option maxHeartbeats 4000000
namespace DL
open PySem PySem.Spec PyProof.Rows L2
/-! ## The laws' data -/
@[simp low] theorem ofString_left (s : String) (x : Str) : (Str.ofString s = x) = (x = Str.ofString s) := propext ⟨Eq.symm, Eq.symm⟩
@[simp low] theorem s_beq (x y : Str) : (x == y) = decide (x = y) := by
  by_cases h : x = y
  · simp [h]
  · simp [h]
@[simp] theorem s_bTys : bTys = ["NoneType", "bool", "int", "str", "tuple", "list", "dict"] := rfl
@[simp] theorem s_atI {α : Type} (a : α) (xs : List α) (i : Int) : atI (a :: xs) i = (ixN (xs.length + 1) i).bind fun j => (a :: xs)[j]? := rfl
@[simp] theorem s_atL {α : Type} (ys : List α) (z : α) : atI (ys ++ [z]) (-1) = some z := by
  unfold atI ixN
  rw [if_neg (by omega), if_pos (by rw [List.length_append, List.length_singleton]; omega)]
  have : (-1 + ((ys ++ [z]).length : Int)).toNat = ys.length := by rw [List.length_append, List.length_singleton]; omega
  rw [Option.bind_some, this]
  simp
@[simp] theorem s_ixN (n : Nat) (i : Int) : ixN n i = if 0 ≤ i then (if i < n then some i.toNat else none) else if -(n : Int) ≤ i then some (i + n).toNat else none := rfl
@[simp] theorem s_sz : sizeLine = 16777216 := sizeLine_eq
@[simp] theorem s_shaped (d : PyData) : SeqAt.shaped d = (d.canLay0 && decide (d.depth ≤ 64)) := rfl
@[simp] theorem l_none : PyData.canLay0 .none = true := by simp only [PyData.canLay0]
@[simp] theorem l_bool (b) : PyData.canLay0 (.bool b) = true := by simp only [PyData.canLay0]
@[simp] theorem l_int (b) : PyData.canLay0 (.int b) = true := by simp only [PyData.canLay0]
@[simp] theorem l_str (b) : PyData.canLay0 (.str b) = PyData.strOk b := by simp only [PyData.canLay0]
@[simp] theorem l_list (b) : PyData.canLay0 (.list b) = PyData.canLayAll0 b := by simp only [PyData.canLay0]
@[simp] theorem l_tuple (b) : PyData.canLay0 (.tuple b) = PyData.canLayAll0 b := by simp only [PyData.canLay0]
@[simp] theorem l_nil : PyData.canLayAll0 [] = true := by simp only [PyData.canLayAll0]
@[simp] theorem l_cons (a b) : PyData.canLayAll0 (a :: b) = (PyData.canLay0 a && PyData.canLayAll0 b) := by simp only [PyData.canLayAll0]
@[simp] theorem p_none : PyData.depth .none = 0 := by simp only [PyData.depth]
@[simp] theorem p_bool (b) : PyData.depth (.bool b) = 0 := by simp only [PyData.depth]
@[simp] theorem p_int (b) : PyData.depth (.int b) = 0 := by simp only [PyData.depth]
@[simp] theorem p_str (b) : PyData.depth (.str b) = 0 := by simp only [PyData.depth]
@[simp] theorem p_list (b) : PyData.depth (.list b) = PyData.depthAll b + 1 := by simp only [PyData.depth]
@[simp] theorem p_tuple (b) : PyData.depth (.tuple b) = PyData.depthAll b + 1 := by simp only [PyData.depth]
@[simp] theorem p_nil : PyData.depthAll [] = 0 := by simp only [PyData.depthAll]
@[simp] theorem p_cons (a b) : PyData.depthAll (a :: b) = max (PyData.depth a) (PyData.depthAll b) := by simp only [PyData.depthAll]
@[simp] theorem v_tt (a b) : PyData.eqv (.tuple a) (.tuple b) = PyData.eqvAll a b := by simp only [PyData.eqv]
@[simp] theorem v_ll (a b) : PyData.eqv (.list a) (.list b) = PyData.eqvAll a b := by simp only [PyData.eqv]
@[simp] theorem v_nb (b) : PyData.eqv .none (.bool b) = false := by simp only [PyData.eqv]
@[simp] theorem v_ni (b) : PyData.eqv .none (.int b) = false := by simp only [PyData.eqv]
@[simp] theorem v_ns (b) : PyData.eqv .none (.str b) = false := by simp only [PyData.eqv]
@[simp] theorem v_nt (b) : PyData.eqv .none (.tuple b) = false := by simp only [PyData.eqv]
@[simp] theorem v_bn (b) : PyData.eqv (.bool b) .none = false := by simp only [PyData.eqv]
@[simp] theorem v_in (b) : PyData.eqv (.int b) .none = false := by simp only [PyData.eqv]
@[simp] theorem v_sn (b) : PyData.eqv (.str b) .none = false := by simp only [PyData.eqv]
@[simp] theorem v_tn (b) : PyData.eqv (.tuple b) .none = false := by simp only [PyData.eqv]
@[simp] theorem v_is (a b) : PyData.eqv (.int a) (.str b) = false := by simp only [PyData.eqv]
@[simp] theorem v_it (a b) : PyData.eqv (.int a) (.tuple b) = false := by simp only [PyData.eqv]
@[simp] theorem v_si (a b) : PyData.eqv (.str a) (.int b) = false := by simp only [PyData.eqv]
@[simp] theorem v_st (a b) : PyData.eqv (.str a) (.tuple b) = false := by simp only [PyData.eqv]
@[simp] theorem v_ti (a b) : PyData.eqv (.tuple a) (.int b) = false := by simp only [PyData.eqv]
@[simp] theorem v_ts (a b) : PyData.eqv (.tuple a) (.str b) = false := by simp only [PyData.eqv]
@[simp] theorem v_tb (a b) : PyData.eqv (.tuple a) (.bool b) = false := by simp only [PyData.eqv]
@[simp] theorem v_bt (a b) : PyData.eqv (.bool a) (.tuple b) = false := by simp only [PyData.eqv]
@[simp] theorem v_bs (a b) : PyData.eqv (.bool a) (.str b) = false := by simp only [PyData.eqv]
@[simp] theorem v_sb (a b) : PyData.eqv (.str a) (.bool b) = false := by simp only [PyData.eqv]
@[simp] theorem v_lt (a b) : PyData.eqv (.list a) (.tuple b) = false := by simp only [PyData.eqv]
@[simp] theorem v_tl (a b) : PyData.eqv (.tuple a) (.list b) = false := by simp only [PyData.eqv]
@[simp] theorem v_ls (a b) : PyData.eqv (.list a) (.str b) = false := by simp only [PyData.eqv]
@[simp] theorem v_sl (a b) : PyData.eqv (.str a) (.list b) = false := by simp only [PyData.eqv]
@[simp] theorem v_nil : PyData.eqvAll [] [] = true := by simp only [PyData.eqvAll]
@[simp] theorem v_cc (a b c d) : PyData.eqvAll (a :: b) (c :: d) = (PyData.eqv a c && PyData.eqvAll b d) := by simp only [PyData.eqvAll]
@[simp] theorem v_cn (a b) : PyData.eqvAll (a :: b) [] = false := by simp only [PyData.eqvAll]
@[simp] theorem v_nc (a b) : PyData.eqvAll [] (a :: b) = false := by simp only [PyData.eqvAll]
section
open Classical
variable {α : Type} {f : α → D}
noncomputable def dec (f : α → D) (d : D) : Option α := if h : ∃ a, f a = d then some h.choose else none
theorem dec_some {d : D} {a : α} (h : dec f d = some a) : d = f a := by
  unfold dec at h
  split at h
  · rename_i q
    have e := q.choose_spec
    cases h
    exact e.symm
  · cases h
theorem dec_at (inj : ∀ a b, f a = f b → a = b) (a : α) : dec f (f a) = some a := by
  have h : ∃ b, f b = f a := ⟨a, rfl⟩
  unfold dec
  rw [dif_pos h]
  exact congrArg some (inj _ _ h.choose_spec)
end
/-- values that isinstance knows -/
def okD (cs : List Str) : D → Bool
  | .non => true
  | .bl _ => true
  | .int _ => true
  | .str _ => true
  | .tup _ => true
  | .lst _ => true
  | .dct _ => true
  | .obj c _ => cs.contains c
  | _ => false
@[simp] theorem okD_non (cs : List Str) : okD cs .non = true := rfl
@[simp] theorem okD_bl (cs : List Str) (b) : okD cs (.bl b) = true := rfl
@[simp] theorem okD_int (cs : List Str) (i) : okD cs (.int i) = true := rfl
@[simp] theorem okD_str (cs : List Str) (x) : okD cs (.str x) = true := rfl
@[simp] theorem okD_tup (cs : List Str) (ds) : okD cs (.tup ds) = true := rfl
@[simp] theorem okD_lst (cs : List Str) (ds) : okD cs (.lst ds) = true := rfl
@[simp] theorem okD_dct (cs : List Str) (kvs) : okD cs (.dct kvs) = true := rfl
@[simp] theorem okD_obj (cs : List Str) (c fs) : okD cs (.obj c fs) = cs.contains c := rfl
def isIntD : D → Bool
  | .int _ => true
  | _ => false
@[simp] theorem isIntD_non  : isIntD .non = false := rfl
@[simp] theorem isIntD_bl  (b) : isIntD (.bl b) = false := rfl
@[simp] theorem isIntD_int  (i) : isIntD (.int i) = true := rfl
@[simp] theorem isIntD_str  (x) : isIntD (.str x) = false := rfl
@[simp] theorem isIntD_tup  (ds) : isIntD (.tup ds) = false := rfl
@[simp] theorem isIntD_lst  (ds) : isIntD (.lst ds) = false := rfl
@[simp] theorem isIntD_dct  (kvs) : isIntD (.dct kvs) = false := rfl
@[simp] theorem isIntD_obj  (c fs) : isIntD (.obj c fs) = false := rfl
def isStrD : D → Bool
  | .str _ => true
  | _ => false
@[simp] theorem isStrD_non  : isStrD .non = false := rfl
@[simp] theorem isStrD_bl  (b) : isStrD (.bl b) = false := rfl
@[simp] theorem isStrD_int  (i) : isStrD (.int i) = false := rfl
@[simp] theorem isStrD_str  (x) : isStrD (.str x) = true := rfl
@[simp] theorem isStrD_tup  (ds) : isStrD (.tup ds) = false := rfl
@[simp] theorem isStrD_lst  (ds) : isStrD (.lst ds) = false := rfl
@[simp] theorem isStrD_dct  (kvs) : isStrD (.dct kvs) = false := rfl
@[simp] theorem isStrD_obj  (c fs) : isStrD (.obj c fs) = false := rfl
def isBlD : D → Bool
  | .bl _ => true
  | _ => false
@[simp] theorem isBlD_non  : isBlD .non = false := rfl
@[simp] theorem isBlD_bl  (b) : isBlD (.bl b) = true := rfl
@[simp] theorem isBlD_int  (i) : isBlD (.int i) = false := rfl
@[simp] theorem isBlD_str  (x) : isBlD (.str x) = false := rfl
@[simp] theorem isBlD_tup  (ds) : isBlD (.tup ds) = false := rfl
@[simp] theorem isBlD_lst  (ds) : isBlD (.lst ds) = false := rfl
@[simp] theorem isBlD_dct  (kvs) : isBlD (.dct kvs) = false := rfl
@[simp] theorem isBlD_obj  (c fs) : isBlD (.obj c fs) = false := rfl
def isTupD : D → Bool
  | .tup _ => true
  | _ => false
@[simp] theorem isTupD_non  : isTupD .non = false := rfl
@[simp] theorem isTupD_bl  (b) : isTupD (.bl b) = false := rfl
@[simp] theorem isTupD_int  (i) : isTupD (.int i) = false := rfl
@[simp] theorem isTupD_str  (x) : isTupD (.str x) = false := rfl
@[simp] theorem isTupD_tup  (ds) : isTupD (.tup ds) = true := rfl
@[simp] theorem isTupD_lst  (ds) : isTupD (.lst ds) = false := rfl
@[simp] theorem isTupD_dct  (kvs) : isTupD (.dct kvs) = false := rfl
@[simp] theorem isTupD_obj  (c fs) : isTupD (.obj c fs) = false := rfl
def seqD : D → Option (List D)
  | .tup ds => some ds
  | .lst ds => some ds
  | _ => none
@[simp] theorem seqD_non  : seqD .non = none := rfl
@[simp] theorem seqD_bl  (b) : seqD (.bl b) = none := rfl
@[simp] theorem seqD_int  (i) : seqD (.int i) = none := rfl
@[simp] theorem seqD_str  (x) : seqD (.str x) = none := rfl
@[simp] theorem seqD_tup  (ds) : seqD (.tup ds) = some ds := rfl
@[simp] theorem seqD_lst  (ds) : seqD (.lst ds) = some ds := rfl
@[simp] theorem seqD_dct  (kvs) : seqD (.dct kvs) = none := rfl
@[simp] theorem seqD_obj  (c fs) : seqD (.obj c fs) = none := rfl
def withinD (d : D) (lo hi : Int) : Bool := match d with
  | .int i => decide (lo ≤ i) && decide (i ≤ hi)
  | _ => false
@[simp] theorem withinD_non (lo hi : Int) : withinD .non lo hi = false := rfl
@[simp] theorem withinD_bl (lo hi : Int) (b) : withinD (.bl b) lo hi = false := rfl
@[simp] theorem withinD_int (lo hi : Int) (i) : withinD (.int i) lo hi = (decide (lo ≤ i) && decide (i ≤ hi)) := rfl
@[simp] theorem withinD_str (lo hi : Int) (x) : withinD (.str x) lo hi = false := rfl
@[simp] theorem withinD_tup (lo hi : Int) (ds) : withinD (.tup ds) lo hi = false := rfl
@[simp] theorem withinD_lst (lo hi : Int) (ds) : withinD (.lst ds) lo hi = false := rfl
@[simp] theorem withinD_dct (lo hi : Int) (kvs) : withinD (.dct kvs) lo hi = false := rfl
@[simp] theorem withinD_obj (lo hi : Int) (c fs) : withinD (.obj c fs) lo hi = false := rfl
def rowD (d : D) (lo hi : Int) : Bool := match seqD d with
  | some ds => decide (lo ≤ (ds.length : Int)) && decide ((ds.length : Int) ≤ hi)
  | none => false
@[simp] theorem rowD_non (lo hi : Int) : rowD .non lo hi = false := rfl
@[simp] theorem rowD_bl (lo hi : Int) (b) : rowD (.bl b) lo hi = false := rfl
@[simp] theorem rowD_int (lo hi : Int) (i) : rowD (.int i) lo hi = false := rfl
@[simp] theorem rowD_str (lo hi : Int) (x) : rowD (.str x) lo hi = false := rfl
@[simp] theorem rowD_tup (lo hi : Int) (ds) : rowD (.tup ds) lo hi = (decide (lo ≤ (ds.length : Int)) && decide ((ds.length : Int) ≤ hi)) := rfl
@[simp] theorem rowD_lst (lo hi : Int) (ds) : rowD (.lst ds) lo hi = (decide (lo ≤ (ds.length : Int)) && decide ((ds.length : Int) ≤ hi)) := rfl
@[simp] theorem rowD_dct (lo hi : Int) (kvs) : rowD (.dct kvs) lo hi = false := rfl
@[simp] theorem rowD_obj (lo hi : Int) (c fs) : rowD (.obj c fs) lo hi = false := rfl
mutual
def frzD : D → D
  | .tup ds => .tup (frzDs ds)
  | .lst ds => .tup (frzDs ds)
  | d => d
def frzDs : List D → List D
  | [] => []
  | d :: ds => frzD d :: frzDs ds
end
theorem frzDs_map : ∀ ds : List D, frzDs ds = ds.map frzD
  | [] => rfl
  | d :: ds => by rw [frzDs, frzDs_map ds]; rfl
mutual
def okAll (cs : List Str) : Nat → D → Bool
  | n, .tup ds => match n with
    | 0 => false
    | n + 1 => okAlls cs n ds && decide (ds.length ≤ sizeLine)
  | n, .lst ds => match n with
    | 0 => false
    | n + 1 => okAlls cs n ds && decide (ds.length ≤ sizeLine)
  | n + 1, .str x => PyData.strOk x
  | n + 1, d => okD cs d
  | 0, _ => false
def okAlls (cs : List Str) : Nat → List D → Bool
  | _, [] => true
  | n, d :: ds => okAll cs n d && okAlls cs n ds
end
/-! ### strings -/
@[simp] theorem strOk_lit (s : String) : PyData.strOk (Str.ofString s) = true := by
  rw [PySem.Str.ofString_eq_toList]
  unfold PyData.strOk
  rw [Array.all_eq_true']
  intro c hc
  have h2 : c ∈ s.toList.map Char.toNat := by simpa using hc
  obtain ⟨ch, _, rfl⟩ := List.mem_map.mp h2
  have hv := ch.valid
  have : ch.toNat < 0x110000 := by
    show ch.val.toNat < 0x110000
    rcases hv with h | ⟨_, h⟩
    · have : ch.val.toNat < 0xd800 := h
      omega
    · exact h
  simpa using this
def strsOf : List D → Option (List Str)
  | [] => some []
  | .str x :: r => (strsOf r).map (x :: ·)
  | _ => none
@[simp] theorem strsOf_nil : strsOf [] = some [] := rfl
@[simp] theorem strsOf_cons (x : Str) (r : List D) : strsOf (.str x :: r) = (strsOf r).map (x :: ·) := rfl
@[simp] theorem strsOf_map : ∀ ws : List Str, strsOf (ws.map .str) = some ws
  | [] => rfl
  | x :: ws => by show (strsOf (ws.map .str)).map (x :: ·) = _; rw [strsOf_map ws]; rfl
theorem strsOf_some : ∀ {ds : List D} {ws : List Str}, strsOf ds = some ws → ds = ws.map .str
  | [], ws, h => by cases h; rfl
  | d :: r, ws, h => by
    cases d with
    | str x =>
      have h2 : (strsOf r).map (x :: ·) = some ws := h
      cases q : strsOf r with
      | none => rw [q] at h2; cases h2
      | some vs =>
        rw [q] at h2
        cases h2
        rw [strsOf_some q]
        rfl
    | _ => cases h
@[simp] theorem pds_strs : ∀ ws : List Str, pds (ws.map .str) = some (ws.map .str)
  | [] => rfl
  | x :: ws => by simp [pds, pd, pds_strs ws]
@[simp] theorem canLay_strs : ∀ ws : List Str, PyData.canLayAll0 (ws.map .str) = ws.all PyData.strOk
  | [] => rfl
  | x :: ws => by simp [PyData.canLayAll0, PyData.canLay0, canLay_strs ws]
@[simp] theorem depth_strs : ∀ ws : List Str, PyData.depthAll (ws.map .str) = 0
  | [] => rfl
  | x :: ws => by simp [PyData.depthAll, PyData.depth, depth_strs ws]
@[simp] theorem any_strs (x : Str) (ws : List Str) : ((ws.map PyData.str).any fun z => PyData.eqv z (.str x)) = ws.contains x := by
  induction ws with
  | nil => rfl
  | cons w ws ih =>
    rw [List.map_cons, List.any_cons, ih, List.contains_cons]
    show ((w == x) || _) = _
    rw [BEq.comm (a := w)]
@[simp] theorem look_cons {α : Type} (f g : Str) (x : α) (r : List (Str × α)) : List.lookup f ((g, x) :: r) = if f = g then some x else List.lookup f r := by
  by_cases h : f = g
  · subst h
    simp [List.lookup]
  · have h2 : (f == g) = false := by simpa using h
    simp [List.lookup, h2, h]
@[simp] def isObj (c : Str) : D → Bool
  | .obj d _ => decide (d = c)
  | _ => false
/-! ### lines of plans -/
inductive Ln where
  | recall | note | count | add | send | wait | end_ | go (t : Int) | done (t : Int) | ok (t : Int)
deriving DecidableEq
def Ln.d : Ln → D
  | .recall => .tup [.str "recall"]
  | .note => .tup [.str "note"]
  | .count => .tup [.str "count"]
  | .add => .tup [.str "add"]
  | .send => .tup [.str "send"]
  | .wait => .tup [.str "wait"]
  | .end_ => .tup [.str "end"]
  | .go t => .tup [.str "go", .int t]
  | .done t => .tup [.str "if", .str "done", .int t]
  | .ok t => .tup [.str "if", .str "ok", .int t]
@[simp] theorem ln_recall : Ln.recall.d = .tup [.str "recall"] := rfl
@[simp] theorem ln_note : Ln.note.d = .tup [.str "note"] := rfl
@[simp] theorem ln_count : Ln.count.d = .tup [.str "count"] := rfl
@[simp] theorem ln_add : Ln.add.d = .tup [.str "add"] := rfl
@[simp] theorem ln_send : Ln.send.d = .tup [.str "send"] := rfl
@[simp] theorem ln_wait : Ln.wait.d = .tup [.str "wait"] := rfl
@[simp] theorem ln_end : Ln.end_.d = .tup [.str "end"] := rfl
@[simp] theorem ln_go (t) : (Ln.go t).d = .tup [.str "go", .int t] := rfl
@[simp] theorem ln_done (t) : (Ln.done t).d = .tup [.str "if", .str "done", .int t] := rfl
@[simp] theorem ln_ok (t) : (Ln.ok t).d = .tup [.str "if", .str "ok", .int t] := rfl
theorem at_ln {ls : List Ln} {i : Int} {a : Ln} (h0 : 0 ≤ i) (h1 : i < ls.length) (ha : ls[i.toNat]? = some a) : atI (ls.map Ln.d) i = some a.d := by
  unfold atI ixN
  rw [if_pos h0, List.length_map, if_pos h1]
  simp [ha]
def Ln.p : Ln → PyData
  | .recall => .tuple [.str "recall"]
  | .note => .tuple [.str "note"]
  | .count => .tuple [.str "count"]
  | .add => .tuple [.str "add"]
  | .send => .tuple [.str "send"]
  | .wait => .tuple [.str "wait"]
  | .end_ => .tuple [.str "end"]
  | .go t => .tuple [.str "go", .int t]
  | .done t => .tuple [.str "if", .str "done", .int t]
  | .ok t => .tuple [.str "if", .str "ok", .int t]
theorem Ln.inj : ∀ a b : Ln, a.d = b.d → a = b := by
  intro a b h
  cases a <;> cases b <;> simp_all [Ln.d]
@[simp] theorem Ln.pd (a : Ln) : DL.pd a.d = some a.p := by
  cases a <;> simp [Ln.d, Ln.p]
@[simp] theorem Ln.pds : ∀ ls : List Ln, DL.pds (ls.map Ln.d) = some (ls.map Ln.p)
  | [] => rfl
  | a :: ls => by simp [Ln.pds ls]
@[simp] theorem Ln.lay (a : Ln) : a.p.canLay0 = true := by
  cases a <;> simp [Ln.p, PyData.canLay0, PyData.canLayAll0]
@[simp] theorem Ln.dep (a : Ln) : a.p.depth = 1 := by
  cases a <;> simp [Ln.p, PyData.depth, PyData.depthAll]
@[simp] theorem Ln.lays : ∀ ls : List Ln, PyData.canLayAll0 (ls.map Ln.p) = true
  | [] => rfl
  | a :: ls => by simp [PyData.canLayAll0, a.lay, Ln.lays ls]
theorem Ln.deps : ∀ ls : List Ln, PyData.depthAll (ls.map Ln.p) ≤ 1
  | [] => by simp [PyData.depthAll]
  | a :: ls => by simp [PyData.depthAll, a.dep, Ln.deps ls]
@[simp] theorem Ln.deps2 (ls : List Ln) : (PyData.depthAll (ls.map Ln.p) + 1 ≤ 64) = True := by
  have := Ln.deps ls
  simp
  omega
@[simp] theorem Ln.deps3 (ls : List Ln) : (PyData.depthAll (ls.map Ln.p) ≤ 63) = True := by
  have := Ln.deps ls
  simp
  omega
@[simp] theorem Ln.eqv (a b : Ln) : PyData.eqv a.p b.p = decide (a = b) := by
  cases a <;> cases b <;> simp [Ln.p, PyData.eqv, PyData.eqvAll] <;> rfl
@[simp] theorem Ln.eqvs : ∀ ls ms : List Ln, PyData.eqvAll (ls.map Ln.p) (ms.map Ln.p) = decide (ls = ms)
  | [], [] => rfl
  | [], _ :: _ => by simp [PyData.eqvAll]
  | _ :: _, [] => by simp [PyData.eqvAll]
  | a :: ls, b :: ms => by simp [PyData.eqvAll, Ln.eqv, Ln.eqvs ls ms]
theorem Ln.any (a : Ln) (ls : List Ln) : ((ls.map Ln.p).any fun z => PyData.eqv z a.p) = ls.contains a := by
  induction ls with
  | nil => rfl
  | cons b ls ih =>
    rw [List.map_cons, List.any_cons, ih, List.contains_cons, Ln.eqv]
    by_cases h : b = a
    · simp [h]
    · have h2 : a ≠ b := fun z => h z.symm
      simp [h, h2]
/-- ("count",) in lines -/
@[simp] def cntL (ls : List Ln) : Bool := ls.contains .count
theorem Ln.any_count (ls : List Ln) : ((ls.map Ln.p).any fun z => PyData.eqv z (.tuple [.str "count"])) = cntL ls := Ln.any .count ls
/-- a jump's aim -/
@[simp] def Ln.to : Ln → Option Int
  | .go t => some t
  | .done t => some t
  | .ok t => some t
  | _ => none
@[simp] def Ln.fit (many : Int) (a : Ln) : Bool := match a.to with
  | some t => decide (0 ≤ t) && decide (t < many)
  | none => true
@[simp] def Ln.last : Ln → Bool
  | .end_ => true
  | .go _ => true
  | _ => false
structure Fits (ls : List Ln) : Prop where
  pos : 1 ≤ ls.length
  most : ls.length ≤ 16
  fit : ∀ a ∈ ls, a.fit ls.length = true
  last : ∃ a, ls.getLast? = some a ∧ a.last = true
theorem map_inj {α β : Type} {f : α → β} (h : ∀ a b, f a = f b → a = b) : ∀ as bs : List α, as.map f = bs.map f → as = bs
  | [], [], _ => rfl
  | [], _ :: _, e => by cases e
  | _ :: _, [], e => by cases e
  | a :: as, b :: bs, e => by
    injection e with e1 e2
    rw [h a b e1, map_inj h as bs e2]
@[simp] def lnsD (ls : List Ln) : D := .tup (ls.map Ln.d)
@[simp] def lnsL (ls : List Ln) : D := .lst (ls.map Ln.d)
@[simp] def plD (ls : List Ln) : D := .obj "Plan" [("_lines", .tup (ls.map Ln.d))]
structure Pr where
  c : Bool
  r : Bool
  t : Bool
deriving DecidableEq
@[simp] def prD (p : Pr) : D := .obj "Printer" [("_counts", .bl p.c), ("_remembers", .bl p.r), ("_tells", .bl p.t)]
/-- as the law tells it -/
@[simp] def prT (p : Pr) : D := .tup [.bl p.c, .bl p.r, .bl p.t]
theorem lnsD_inj : ∀ a b, lnsD a = lnsD b → a = b := fun a b h => by
  unfold lnsD at h
  injection h with h
  exact map_inj Ln.inj a b h
theorem lnsL_inj : ∀ a b, lnsL a = lnsL b → a = b := fun a b h => by
  unfold lnsL at h
  injection h with h
  exact map_inj Ln.inj a b h
theorem plD_inj : ∀ a b, plD a = plD b → a = b := fun a b h => by
  unfold plD at h
  injection h with _ h
  simp at h
  exact map_inj Ln.inj a b h
theorem prD_inj : ∀ a b, prD a = prD b → a = b := fun a b h => by
  cases a; cases b
  unfold prD at h
  injection h with _ h
  simp at h
  simp [h]
theorem prT_inj : ∀ a b, prT a = prT b → a = b := fun a b h => by
  cases a; cases b
  unfold prT at h
  injection h with h
  simp at h
  simp [h]
@[simp] theorem dec_lnsD (a : List Ln) : dec lnsD (.tup (a.map Ln.d)) = some a := dec_at lnsD_inj a
@[simp] theorem dec_lnsL (a : List Ln) : dec lnsL (.lst (a.map Ln.d)) = some a := dec_at lnsL_inj a
@[simp] theorem dec_plD (a : List Ln) : dec plD (.obj "Plan" [("_lines", .tup (a.map Ln.d))]) = some a := dec_at plD_inj a
@[simp] theorem dec_prD (a b c : Bool) : dec prD (.obj "Printer" [("_counts", .bl a), ("_remembers", .bl b), ("_tells", .bl c)]) = some ⟨a, b, c⟩ := dec_at prD_inj ⟨a, b, c⟩
@[simp] theorem dec_prT (a b c : Bool) : dec prT (.tup [.bl a, .bl b, .bl c]) = some ⟨a, b, c⟩ := dec_at prT_inj ⟨a, b, c⟩
@[simp] theorem dec_ln (a) : dec Ln.d (Ln.d a) = some a := dec_at Ln.inj a
@[simp] theorem any_strs2 (x : Str) (ws : List Str) : (ws.any ((fun z => PyData.eqv z (.str x)) ∘ PyData.str)) = decide (x ∈ ws) := by
  have := any_strs x ws
  rw [List.any_map] at this
  rw [this]
  simp
@[simp] theorem Ln.any_count2 (ls : List Ln) : (ls.any ((fun z => PyData.eqv z (.tuple [.str "count"])) ∘ Ln.p)) = cntL ls := by
  have := Ln.any_count ls
  rwa [List.any_map] at this
/-- a comprehension that maps data -/
theorem dLc_mapD {tt : Va → Env → Env} {f : Env → Mu → R Va} {et : Env} (F : D → D) (m : Mu) (xs : List D) (acc : List D) (h : ∀ x ∈ xs, f (tt (.d x) et) m = .ok (.d (F x)) m) (hl : acc.length + xs.length ≤ sizeLine) : dLc tt pYes f et (xs.map .d) m acc = .ok (acc ++ xs.map F) m := by
  have := dLc_map (tt := tt) (f := f) (et := et) (fun x => match x with | .d x => F x | .l _ => .non) m (xs.map .d) acc (fun x hx => by
    obtain ⟨y, hy, rfl⟩ := List.mem_map.mp hx
    exact h y hy) (by simpa using hl)
  rw [this, List.map_map]
  rfl
/-! ### lines as given -/
def headD : D → D
  | .tup (d :: _) => d
  | .lst (d :: _) => d
  | _ => .non
@[simp] theorem headD_tup (d ds) : headD (.tup (d :: ds)) = d := rfl
@[simp] theorem headD_lst (d ds) : headD (.lst (d :: ds)) = d := rfl
def wordD (ws : List Str) : D → Bool
  | .str x => ws.any fun w => w == x
  | _ => false
@[simp] theorem wordD_non (ws : List Str) : wordD ws .non = false := rfl
@[simp] theorem wordD_bl (ws : List Str) (b) : wordD ws (.bl b) = false := rfl
@[simp] theorem wordD_int (ws : List Str) (i) : wordD ws (.int i) = false := rfl
@[simp] theorem wordD_str (ws : List Str) (x) : wordD ws (.str x) = (ws.any fun w => w == x) := rfl
@[simp] theorem wordD_tup (ws : List Str) (ds) : wordD ws (.tup ds) = false := rfl
@[simp] theorem wordD_lst (ws : List Str) (ds) : wordD ws (.lst ds) = false := rfl
@[simp] theorem wordD_dct (ws : List Str) (kvs) : wordD ws (.dct kvs) = false := rfl
@[simp] theorem wordD_obj (ws : List Str) (c fs) : wordD ws (.obj c fs) = false := rfl
@[simp] theorem okD_scr (cs : List Str) (ns) : okD cs (.scr ns) = false := rfl
@[simp] theorem okD_ty (cs : List Str) (n) : okD cs (.ty n) = false := rfl
@[simp] theorem okD_cls (cs : List Str) (c) : okD cs (.cls c) = false := rfl
@[simp] theorem okD_exn (cs : List Str) (a e c x) : okD cs (.exn a e c x) = false := rfl
@[simp] theorem okD_dtn (cs : List Str) (a e) : okD cs (.dtn a e) = false := rfl
@[simp] theorem isIntD_scr  (ns) : isIntD (.scr ns) = false := rfl
@[simp] theorem isIntD_ty  (n) : isIntD (.ty n) = false := rfl
@[simp] theorem isIntD_cls  (c) : isIntD (.cls c) = false := rfl
@[simp] theorem isIntD_exn  (a e c x) : isIntD (.exn a e c x) = false := rfl
@[simp] theorem isIntD_dtn  (a e) : isIntD (.dtn a e) = false := rfl
@[simp] theorem isStrD_scr  (ns) : isStrD (.scr ns) = false := rfl
@[simp] theorem isStrD_ty  (n) : isStrD (.ty n) = false := rfl
@[simp] theorem isStrD_cls  (c) : isStrD (.cls c) = false := rfl
@[simp] theorem isStrD_exn  (a e c x) : isStrD (.exn a e c x) = false := rfl
@[simp] theorem isStrD_dtn  (a e) : isStrD (.dtn a e) = false := rfl
@[simp] theorem isBlD_scr  (ns) : isBlD (.scr ns) = false := rfl
@[simp] theorem isBlD_ty  (n) : isBlD (.ty n) = false := rfl
@[simp] theorem isBlD_cls  (c) : isBlD (.cls c) = false := rfl
@[simp] theorem isBlD_exn  (a e c x) : isBlD (.exn a e c x) = false := rfl
@[simp] theorem isBlD_dtn  (a e) : isBlD (.dtn a e) = false := rfl
@[simp] theorem isTupD_scr  (ns) : isTupD (.scr ns) = false := rfl
@[simp] theorem isTupD_ty  (n) : isTupD (.ty n) = false := rfl
@[simp] theorem isTupD_cls  (c) : isTupD (.cls c) = false := rfl
@[simp] theorem isTupD_exn  (a e c x) : isTupD (.exn a e c x) = false := rfl
@[simp] theorem isTupD_dtn  (a e) : isTupD (.dtn a e) = false := rfl
@[simp] theorem seqD_scr  (ns) : seqD (.scr ns) = none := rfl
@[simp] theorem seqD_ty  (n) : seqD (.ty n) = none := rfl
@[simp] theorem seqD_cls  (c) : seqD (.cls c) = none := rfl
@[simp] theorem seqD_exn  (a e c x) : seqD (.exn a e c x) = none := rfl
@[simp] theorem seqD_dtn  (a e) : seqD (.dtn a e) = none := rfl
@[simp] theorem withinD_scr (lo hi : Int) (ns) : withinD (.scr ns) lo hi = false := rfl
@[simp] theorem withinD_ty (lo hi : Int) (n) : withinD (.ty n) lo hi = false := rfl
@[simp] theorem withinD_cls (lo hi : Int) (c) : withinD (.cls c) lo hi = false := rfl
@[simp] theorem withinD_exn (lo hi : Int) (a e c x) : withinD (.exn a e c x) lo hi = false := rfl
@[simp] theorem withinD_dtn (lo hi : Int) (a e) : withinD (.dtn a e) lo hi = false := rfl
@[simp] theorem rowD_scr (lo hi : Int) (ns) : rowD (.scr ns) lo hi = false := rfl
@[simp] theorem rowD_ty (lo hi : Int) (n) : rowD (.ty n) lo hi = false := rfl
@[simp] theorem rowD_cls (lo hi : Int) (c) : rowD (.cls c) lo hi = false := rfl
@[simp] theorem rowD_exn (lo hi : Int) (a e c x) : rowD (.exn a e c x) lo hi = false := rfl
@[simp] theorem rowD_dtn (lo hi : Int) (a e) : rowD (.dtn a e) lo hi = false := rfl
@[simp] theorem wordD_scr (ws : List Str) (ns) : wordD ws (.scr ns) = false := rfl
@[simp] theorem wordD_ty (ws : List Str) (n) : wordD ws (.ty n) = false := rfl
@[simp] theorem wordD_cls (ws : List Str) (c) : wordD ws (.cls c) = false := rfl
@[simp] theorem wordD_exn (ws : List Str) (a e c x) : wordD ws (.exn a e c x) = false := rfl
@[simp] theorem wordD_dtn (ws : List Str) (a e) : wordD ws (.dtn a e) = false := rfl
def lineOk (many : Int) (d : D) : Bool := match seqD d with
  | some [w] => wordD ["recall", "note", "count", "add", "send", "wait", "end"] w
  | some [w, t] => wordD ["go"] w && withinD t 0 (many - 1)
  | some [w, c, t] => wordD ["if"] w && (wordD ["done", "ok"] c && withinD t 0 (many - 1))
  | _ => false
theorem lineOk_ln {many : Int} (a : Ln) (h : a.fit many = true) : lineOk many a.d = true := by
  cases a <;> simp_all [Ln.d, lineOk] <;> omega
theorem headD_ln (a : Ln) : wordD ["end", "go"] (headD a.d) = a.last := by
  cases a <;> simp [Ln.d]
theorem frzDs_ln : ∀ ls : List Ln, frzDs (ls.map Ln.d) = ls.map Ln.d
  | [] => rfl
  | a :: ls => by
    have : frzD a.d = a.d := by cases a <;> simp [Ln.d, frzD, frzDs]
    simp [frzDs, this, frzDs_ln ls]
theorem okAlls_ln (cs : List Str) (n : Nat) : ∀ ls : List Ln, okAlls cs (n + 2) (ls.map Ln.d) = true
  | [] => rfl
  | a :: ls => by
    have : okAll cs (n + 2) a.d = true := by cases a <;> simp [Ln.d, okAll, okAlls, sizeLine_eq]
    simp [okAlls, this, okAlls_ln cs n ls]
end DL
set_option maxHeartbeats 4000000
namespace DL
open PySem PySem.Spec PyProof.Rows L2
/-! ### moments -/
inductive Way where
  | no | sheet (n : Int) | told (b : Bool)
deriving DecidableEq
structure Mo where
  line : Option Int
  at_ : Int
  ok : Bool
  note : Int
  way : Way
  last : Int
  lying : Int
deriving DecidableEq
def Way.d : Way → D
  | .no => .non
  | .sheet n => .int n
  | .told b => .tup [.str "told", .bl b]
def lineD : Option Int → D
  | none => .non
  | some i => .int i
@[simp] theorem way_no : Way.no.d = .non := rfl
@[simp] theorem way_sh (n) : (Way.sheet n).d = .int n := rfl
@[simp] theorem way_to (b) : (Way.told b).d = .tup [.str "told", .bl b] := rfl
@[simp] theorem line_no : lineD none = .non := rfl
@[simp] theorem line_so (i) : lineD (some i) = .int i := rfl
@[simp] def Mo.d (m : Mo) : D := .tup [lineD m.line, .int m.at_, .bl m.ok, .int m.note, m.way.d, .int m.last, .int m.lying]
@[simp] def stD (q : Mo × Option Int) : D := .tup [q.1.d, lineD q.2]
@[simp] def csD (q : Pr × List Ln) : D := .tup [prT q.1, lnsD q.2]
theorem lineD_inj : ∀ a b, lineD a = lineD b → a = b := fun a b h => by cases a <;> cases b <;> simp_all
theorem wayD_inj : ∀ a b : Way, a.d = b.d → a = b := fun a b h => by cases a <;> cases b <;> simp_all
theorem moD_inj : ∀ a b : Mo, a.d = b.d → a = b := fun a b h => by
  obtain ⟨a1, a2, a3, a4, a5, a6, a7⟩ := a
  obtain ⟨b1, b2, b3, b4, b5, b6, b7⟩ := b
  unfold Mo.d at h
  injection h with h
  simp only [List.cons.injEq, D.int.injEq, D.bl.injEq, and_true] at h
  obtain ⟨h1, h2, h3, h4, h5, h6, h7⟩ := h
  rw [lineD_inj _ _ h1, h2, h3, h4, wayD_inj _ _ h5, h6, h7]
theorem stD_inj : ∀ a b, stD a = stD b → a = b := fun a b h => by
  obtain ⟨a1, a2⟩ := a
  obtain ⟨b1, b2⟩ := b
  unfold stD at h
  injection h with h
  simp only [List.cons.injEq, and_true] at h
  rw [moD_inj _ _ h.1, lineD_inj _ _ h.2]
theorem csD_inj : ∀ a b, csD a = csD b → a = b := fun a b h => by
  obtain ⟨a1, a2⟩ := a
  obtain ⟨b1, b2⟩ := b
  unfold csD at h
  injection h with h
  simp only [List.cons.injEq, and_true] at h
  rw [prT_inj _ _ h.1, lnsD_inj _ _ h.2]
abbrev moT (l w : D) (a : Int) (k : Bool) (n la ly : Int) : D := .tup [l, .int a, .bl k, .int n, w, .int la, .int ly]
@[simp] theorem dec_mo1 (a k n la ly) : dec Mo.d (moT .non .non a k n la ly) = some ⟨none, a, k, n, .no, la, ly⟩ := dec_at moD_inj ⟨none, a, k, n, .no, la, ly⟩
@[simp] theorem dec_mo2 (x a k n la ly) : dec Mo.d (moT .non (.int x) a k n la ly) = some ⟨none, a, k, n, .sheet x, la, ly⟩ := dec_at moD_inj ⟨none, a, k, n, .sheet x, la, ly⟩
@[simp] theorem dec_mo3 (x a k n la ly) : dec Mo.d (moT .non (.tup [.str "told", .bl x]) a k n la ly) = some ⟨none, a, k, n, .told x, la, ly⟩ := dec_at moD_inj ⟨none, a, k, n, .told x, la, ly⟩
@[simp] theorem dec_mo4 (i a k n la ly) : dec Mo.d (moT (.int i) .non a k n la ly) = some ⟨some i, a, k, n, .no, la, ly⟩ := dec_at moD_inj ⟨some i, a, k, n, .no, la, ly⟩
@[simp] theorem dec_mo5 (i x a k n la ly) : dec Mo.d (moT (.int i) (.int x) a k n la ly) = some ⟨some i, a, k, n, .sheet x, la, ly⟩ := dec_at moD_inj ⟨some i, a, k, n, .sheet x, la, ly⟩
@[simp] theorem dec_mo6 (i x a k n la ly) : dec Mo.d (moT (.int i) (.tup [.str "told", .bl x]) a k n la ly) = some ⟨some i, a, k, n, .told x, la, ly⟩ := dec_at moD_inj ⟨some i, a, k, n, .told x, la, ly⟩
@[simp] theorem dec_mo7 (l w a k n la ly) : dec Mo.d (moT (lineD l) (Way.d w) a k n la ly) = some ⟨l, a, k, n, w, la, ly⟩ := dec_at moD_inj ⟨l, a, k, n, w, la, ly⟩
@[simp] theorem dec_cs (a b c : Bool) (ls : List Ln) : dec csD (.tup [.tup [.bl a, .bl b, .bl c], .tup (ls.map Ln.d)]) = some (⟨a, b, c⟩, ls) := dec_at csD_inj (⟨a, b, c⟩, ls)
/-! ### what is done -/
@[simp] def isSh : Way → Bool
  | .sheet _ => true
  | _ => false
@[simp] def sendW : Ln → Bool
  | .send => true
  | .wait => true
  | _ => false
def lnAt (ls : List Ln) (m : Mo) : Option Ln := match m.line with
  | some i => ls[i.toNat]?
  | none => none
def canGo (ls : List Ln) (m : Mo) : Bool := match lnAt ls m with
  | some a => !(isSh m.way) || !(sendW a)
  | none => false
def choV (ls : List Ln) (m : Mo) : List Int := (if canGo ls m = true then [0] else []) ++ (if isSh m.way = true then (if m.line = none then [1, 2] else [1, 2, 3, 4]) else if m.line = none then [] else [5])
def goV (ls : List Ln) (pages : Int) (m : Mo) : Mo := match m.line with
  | none => m
  | some i => match ls[i.toNat]? with
    | none => m
    | some .recall => { m with line := some (i + 1), at_ := m.note }
    | some .note => { m with line := some (i + 1), note := m.at_ }
    | some .count => { m with line := some (i + 1), at_ := m.lying }
    | some .add => { m with line := some (i + 1), at_ := m.at_ + 1 }
    | some .send => { m with line := some (i + 1), way := .sheet m.at_ }
    | some .wait => { m with line := some (i + 1), ok := (match m.way with | .told b => b | _ => m.ok), way := .no }
    | some .end_ => { m with line := none }
    | some (.go t) => { m with line := some t }
    | some (.done t) => { m with line := some (if pages ≤ m.at_ then t else i + 1) }
    | some (.ok t) => { m with line := some (if m.ok = true then t else i + 1) }
def lainV (p : Pr) (ls : List Ln) (m : Mo) : Mo × Option Int := match m.way with
  | .sheet w => if (p.r && decide (w ≤ m.last)) = true then ({ m with way := .told true }, none) else ({ m with way := .told true, last := (if m.last < w then w else m.last), lying := if cntL ls = true then m.lying + 1 else m.lying }, some w)
  | _ => (m, none)
def cutV (m : Mo) : Mo := ⟨some 0, 0, false, m.note, .no, m.last, m.lying⟩
def stepV (p : Pr) (ls : List Ln) (pages : Int) (m : Mo) (c : Int) : Mo × Option Int :=
  if c = 0 then (goV ls pages m, none) else if c = 1 then lainV p ls m else if c = 2 then ({ m with way := .told (!p.t) }, none) else if c = 3 then (cutV (lainV p ls m).1, (lainV p ls m).2) else (cutV m, none)
def firstV : Mo := ⟨some 0, 0, false, 0, .no, 0, 0⟩
/-- where a moment can stand -/
structure InR (ls : List Ln) (m : Mo) : Prop where
  rng : ∀ i, m.line = some i → 0 ≤ i ∧ i < ls.length
  cnt : cntL ls = false → m.lying = 0
theorem InR.at {ls : List Ln} {m : Mo} (h : InR ls m) {i : Int} (e : m.line = some i) : ∃ a, ls[i.toNat]? = some a := by
  obtain ⟨h0, h1⟩ := h.rng i e
  have : i.toNat < ls.length := by omega
  exact ⟨_, List.getElem?_eq_getElem this⟩
theorem InR.first {ls : List Ln} (h : Fits ls) : InR ls firstV := ⟨fun i e => by
  cases e
  have := h.pos
  omega, fun _ => rfl⟩
theorem InR.cut {ls : List Ln} {m : Mo} (f : Fits ls) (h : InR ls m) : InR ls (cutV m) := ⟨fun i e => by
  cases e
  have := f.pos
  omega, h.cnt⟩
theorem Fits.next {ls : List Ln} (f : Fits ls) {i : Int} {a : Ln} (h0 : 0 ≤ i) (h1 : i < ls.length) (e : ls[i.toNat]? = some a) (hl : a.last = false) : i + 1 < ls.length := by
  by_cases q : i + 1 < ls.length
  · exact q
  · obtain ⟨b, hb, hb2⟩ := f.last
    rw [List.getLast?_eq_getElem?] at hb
    have : i.toNat = ls.length - 1 := by omega
    rw [this, hb] at e
    cases e
    rw [hb2] at hl
    cases hl
theorem Fits.aim {ls : List Ln} (f : Fits ls) {i : Nat} {a : Ln} {t : Int} (e : ls[i]? = some a) (ht : a.to = some t) : 0 ≤ t ∧ t < ls.length := by
  have := f.fit a (List.mem_of_getElem? e)
  unfold Ln.fit at this
  rw [ht] at this
  simpa using this
theorem InR.go {ls : List Ln} {m : Mo} {pages : Int} (f : Fits ls) (h : InR ls m) : InR ls (goV ls pages m) := by
  obtain ⟨line, a2, a3, a4, a5, a6, a7⟩ := m
  cases line with
  | none => exact h
  | some i =>
    obtain ⟨h0, h1⟩ := h.rng i rfl
    obtain ⟨a, ha⟩ := h.at rfl
    have nx : a.last = false → 0 ≤ i + 1 ∧ i + 1 < ls.length := fun q => ⟨by omega, f.next h0 h1 ha q⟩
    have am : ∀ {t}, a.to = some t → 0 ≤ t ∧ t < ls.length := fun q => f.aim ha q
    unfold goV
    simp only [ha]
    cases a with
    | done t =>
      refine ⟨fun j e => ?_, h.cnt⟩
      simp only [Option.some.injEq] at e
      split at e
      · subst e; exact am rfl
      · subst e; exact nx rfl
    | ok t =>
      refine ⟨fun j e => ?_, h.cnt⟩
      simp only [Option.some.injEq] at e
      split at e
      · subst e; exact am rfl
      · subst e; exact nx rfl
    | go t => exact ⟨fun j e => by cases e; exact am rfl, h.cnt⟩
    | end_ =>
      refine ⟨fun j e => ?_, h.cnt⟩
      cases e
    | _ => exact ⟨fun j e => by cases e; exact nx rfl, h.cnt⟩
theorem InR.lain {ls : List Ln} {m : Mo} {p : Pr} (h : InR ls m) : InR ls (lainV p ls m).1 := by
  obtain ⟨line, a2, a3, a4, a5, a6, a7⟩ := m
  unfold lainV
  cases a5 with
  | sheet w =>
    dsimp only
    split
    · exact ⟨h.rng, h.cnt⟩
    · refine ⟨h.rng, fun c => ?_⟩
      have := h.cnt c
      simp only [c]
      exact this
  | _ => exact h
theorem InR.step {ls : List Ln} {m : Mo} {p : Pr} {pages c : Int} (f : Fits ls) (h : InR ls m) : InR ls (stepV p ls pages m c).1 := by
  unfold stepV
  split
  · exact h.go f
  · split
    · exact h.lain
    · split
      · exact ⟨h.rng, h.cnt⟩
      · split
        · exact h.lain.cut f
        · exact h.cut f
end DL
set_option maxHeartbeats 4000000
namespace DL
open PySem PySem.Spec PyProof.Rows L2
section
variable {X : Cx} {W : WX} {elt tg iter : Expr} {ifs : List Expr} {scope : Scope} {own : List (Str × Nat)} {pos : Pos} {fi : Env → Mu → R (List Va)} {g : TG} {t : Va → Env → Env} {p : Env → Mu → R Bool} {f : Env → Mu → R Va} {vs : List Nat} {okx : Va → Prop} {wi : TI}
theorem ss_setLcF {i j : Nat} {y : Str} {py spos : Pos} (hc : X.calm = true) (hN : X.N.Nodup) (hy : X.N[j]? = some y) (hyl : X.env.scope.names.lookup y = some .local)
    (hsw : swapsWith (.ListComp elt [⟨tg, iter, ifs, 0⟩] scope pos) (some (.Name y py)) spos.line X.env = pure true) (hi : SI X W tg iter fi) (ok : BlkOk X.N X.env.scope scope own) (ho : own.map (·.2) = [i])
    (hg : ∀ (s : Shared) (H : Hp) (C : Addr) (cl : List (Str × Addr)) (fp : List Addr), PG (X.blk s H scope (compEnvC scope cl C X.env) fp) tg (gName i)) (ht : ∀ (s : Shared) (H : Hp) (C : Addr) (cl : List (Str × Addr)) (fp : List Addr), STs (X.blk s H scope (compEnvC scope cl C X.env) fp) ifs p)
    (he : ∀ (s : Shared) (H : Hp) (C : Addr) (cl : List (Str × Addr)) (fp : List Addr), SE (X.blk s H scope (compEnvC scope cl C X.env) fp) WF elt f) (hs : ∀ x, foldedSetIterable iter X.env x = pure x := by intro _; rfl) :
SS X W (.Assign [.Name y py] (.ListComp elt [⟨tg, iter, ifs, 0⟩] scope pos) spos) (zAsg (xFrz (xLc fi [i] (tN i) p f)) (gN j)) := (ss_setLc hc hN hy hyl hsw hi ok ho hg ht he hs).1
theorem ss_setLcC {i j : Nat} {y : Str} {py spos : Pos} (hc : X.calm = true) (hN : X.N.Nodup) (hy : X.N[j]? = some y) (hyl : X.env.scope.names.lookup y = some .local)
    (hsw : swapsWith (.ListComp elt [⟨tg, iter, ifs, 0⟩] scope pos) (some (.Name y py)) spos.line X.env = pure true) (hi : SI X W tg iter fi) (ok : BlkOk X.N X.env.scope scope own) (ho : own.map (·.2) = [i])
    (hg : ∀ (s : Shared) (H : Hp) (C : Addr) (cl : List (Str × Addr)) (fp : List Addr), PG (X.blk s H scope (compEnvC scope cl C X.env) fp) tg (gName i)) (ht : ∀ (s : Shared) (H : Hp) (C : Addr) (cl : List (Str × Addr)) (fp : List Addr), STs (X.blk s H scope (compEnvC scope cl C X.env) fp) ifs p)
    (he : ∀ (s : Shared) (H : Hp) (C : Addr) (cl : List (Str × Addr)) (fp : List Addr), SE (X.blk s H scope (compEnvC scope cl C X.env) fp) WF elt f) (hs : ∀ x, foldedSetIterable iter X.env x = pure x := by intro _; rfl) :
SS X W (.Assign [.Name y py] (.ListComp elt [⟨tg, iter, ifs, 0⟩] scope pos) spos) (zAsg (xCel (xLc fi [i] (tN i) p f)) (gN j)) := (ss_setLc hc hN hy hyl hsw hi ok ho hg ht he hs).2
end
/-! ### for the laws' own defs -/
theorem rngD_get {n j : Nat} {lo : Int} {y : Va} (h : (rngD lo n)[j]? = some y) : j < n ∧ y = .d (.int (lo + (j : Nat))) := by
  have hj : j < n := by
    have := (List.getElem?_eq_some_iff.mp h).1
    simpa [rngD] using this
  refine ⟨hj, ?_⟩
  unfold rngD at h
  rw [List.getElem?_map, List.getElem?_range hj] at h
  cases h
  rfl
@[simp] theorem rngD_len (lo : Int) (n : Nat) : (rngD lo n).length = n := by simp [rngD]
theorem atI_nat {xs : List D} {j : Nat} (h : j < xs.length) : atI xs (j : Int) = some xs[j] := by
  have h1 : ((j : Int) < xs.length) := by omega
  simp [atI, h1, List.getElem?_eq_getElem h]
theorem atI_int {xs : List D} {i : Int} (h0 : 0 ≤ i) (h1 : i < xs.length) : atI xs i = some (xs[i.toNat]'(by omega)) := by
  have h2 : i.toNat < xs.length := by omega
  unfold atI
  simp [h0, h1, List.getElem?_eq_getElem h2]
mutual
/-- what the laws compare -/
def soD : Nat → D → Bool
  | n + 1, .tup ds => decide (ds.length ≤ 16777216) && soDs n ds
  | _ + 1, .non => true
  | _ + 1, .bl _ => true
  | _ + 1, .int _ => true
  | _ + 1, .str x => PyData.strOk x
  | _, _ => false
def soDs : Nat → List D → Bool
  | _, [] => true
  | n, d :: ds => soD n d && soDs n ds
end
theorem soDs_at {n : Nat} : ∀ {xs : List D}, soDs n xs = true → ∀ x ∈ xs, soD n x = true
  | [], _, x, hx => by cases hx
  | y :: ys, h, x, hx => by
    simp only [soDs, Bool.and_eq_true] at h
    rcases List.mem_cons.mp hx with rfl | hx
    · exact h.1
    · exact soDs_at h.2 x hx
theorem soDs_of {n : Nat} : ∀ {xs : List D}, (∀ x ∈ xs, soD n x = true) → soDs n xs = true
  | [], _ => rfl
  | y :: ys, h => by
    simp only [soDs, Bool.and_eq_true]
    exact ⟨h y (List.mem_cons_self ..), soDs_of fun x hx => h x (List.mem_cons_of_mem _ hx)⟩
mutual
/-- lists in the place of some tuples -/
def looseD : Int → D → D
  | t, .tup ds => if t.fmod 2 = 0 then .lst (looseDs (t + 1) ds) else .tup (looseDs (t + 1) ds)
  | _, d => d
def looseDs : Int → List D → List D
  | _, [] => []
  | t, d :: ds => looseD t d :: looseDs t ds
end
theorem looseDs_map (t : Int) : ∀ ds : List D, looseDs t ds = ds.map (looseD t)
  | [] => rfl
  | d :: ds => by rw [looseDs, looseDs_map t ds]; rfl
end DL
set_option maxHeartbeats 4000000
namespace DL
open PySem PySem.Spec PyProof.Rows L2
/-! ### the cell of the place in the row -/
structure At (b : Mu) (n : Nat) (k : Int) (M : Mu) : Prop where
  lt : n < b.length
  pre : b.set n (some (.lst [.int k])) <+: M
section
variable {b M : Mu} {n j : Nat} {k k' : Int} {x : Option Ce}
theorem At.len (h : At b n k M) : b.length ≤ M.length := by simpa using h.pre.length_le
theorem At.get (h : At b n k M) : M[n]? = some (some (.lst [.int k])) := by
  obtain ⟨t, rfl⟩ := h.pre
  have := h.lt
  rw [List.getElem?_append_left (by simpa using h.lt)]
  simp [h.lt]
theorem At.take (h : At b n k M) (k' : Int) : At b n k' (M.set n (some (.lst [.int k']))) := by
  refine ⟨h.lt, ?_⟩
  obtain ⟨t, rfl⟩ := h.pre
  refine ⟨t, ?_⟩
  rw [List.set_append_left _ _ (by simpa using h.lt), List.set_set]
theorem At.wr (h : At b n k M) (hj : b.length ≤ j) : At b n k (M.set j x) := by
  refine ⟨h.lt, ?_⟩
  obtain ⟨t, rfl⟩ := h.pre
  rw [List.set_append_right _ _ (by simpa using hj)]
  exact ⟨_, rfl⟩
theorem At.app (h : At b n k M) (xs : Mu) : At b n k (M ++ xs) := ⟨h.lt, h.pre.trans (List.prefix_append _ _)⟩
theorem At.cut (h : At b n k M) : Cut b M (b.set n (some (.lst [.int k]))) :=
  ⟨by simp, h.pre, (cut_set (m := b) (n := n) (c := .lst [.int k]) trivial).objs⟩
theorem At.base (h : b[n]? = some (some (.lst [.int k]))) : At b n k b := by
  have hl := (List.getElem?_eq_some_iff.mp h).1
  refine ⟨hl, ?_⟩
  have : b.set n (some (.lst [.int k])) = b := by
    apply List.ext_getElem?
    intro i
    by_cases hi : n = i
    · subst hi; rw [List.getElem?_set_self hl, h]
    · rw [List.getElem?_set_ne hi]
  rw [this]
  exact List.prefix_refl _
theorem At.down {xs : Mu} (h : At (b ++ xs) n k M) (hn : n < b.length) : At b n k M := by
  refine ⟨hn, ?_⟩
  have := h.pre
  rw [List.set_append_left _ _ hn] at this
  exact (List.prefix_append _ _).trans this
theorem At.up {y : Option Ce} (h : At (b ++ [y]) n k M) (hn : n < b.length) : M[b.length]? = some y := by
  obtain ⟨t, rfl⟩ := h.pre
  rw [List.set_append_left _ _ hn]
  simp
end
theorem cutD_to {xs : List D} {a : Nat} : cutD xs none (some (a : Int)) = xs.take a := by
  unfold cutD
  rw [HT.sIx_none, HT.sIx_nat]
  simp
theorem cutD_from {xs : List D} {a : Nat} : cutD xs (some (a : Int)) none = xs.drop a := by
  unfold cutD
  rw [HT.sIx_none, HT.sIx_nat]
  have : (xs.drop (min a xs.length)).length ≤ xs.length - min a xs.length := by simp
  rw [List.take_of_length_le this]
  by_cases h : a ≤ xs.length
  · rw [Nat.min_eq_left h]
  · have h2 : xs.length ≤ a := by omega
    rw [Nat.min_eq_right h2, List.drop_length, List.drop_eq_nil_of_le h2]
theorem cutD_from1 {xs : List D} {a : Nat} : cutD xs (some ((a : Int) + 1)) none = xs.drop (a + 1) := cutD_from (a := a + 1)
/-! ### plans with lines changed -/
def Ln.mv (at_ more : Int) : Ln → Ln
  | .go t => .go (if at_ ≤ t then t + more else t)
  | .done t => .done (if at_ ≤ t then t + more else t)
  | .ok t => .ok (if at_ ≤ t then t + more else t)
  | a => a
structure Good (c : Bool) (ls : List Ln) : Prop where
  fit : ∀ a ∈ ls, a.fit ls.length = true
  last : ∃ a, ls.getLast? = some a ∧ a.last = true
  cnt : ∀ a ∈ ls, a = .count → c = true
theorem Good.fits {c : Bool} {ls : List Ln} (h : Good c ls) (hl : ls.length ≤ 16) : Fits ls := by
  refine ⟨?_, hl, h.fit, h.last⟩
  obtain ⟨a, ha, _⟩ := h.last
  cases ls with
  | nil => cases ha
  | cons _ _ => simp
theorem mv_last (a b : Int) (l : Ln) : (l.mv a b).last = l.last := by cases l <;> rfl
theorem mv_count {a b : Int} {l : Ln} (h : l.mv a b = .count) : l = .count := by cases l <;> simp_all [Ln.mv]
theorem mv_fit1 {n a : Nat} {l : Ln} (h : l.fit (n : Int) = true) : (l.mv a 1).fit ((n + 1 : Nat) : Int) = true := by
  cases l <;> simp_all [Ln.mv] <;> split <;> omega
theorem mv_fit2 {n a : Nat} {l : Ln} (h : l.fit ((n + 1 : Nat) : Int) = true) (ha : a < n) : (l.mv ((a : Int) + 1) (-1)).fit (n : Int) = true := by
  cases l <;> simp_all [Ln.mv] <;> split <;> omega
theorem getLast?_app {α : Type} (xs : List α) {ys : List α} (h : ys ≠ []) : (xs ++ ys).getLast? = ys.getLast? := by
  rw [List.getLast?_append]
  cases q : ys.getLast? with
  | none => exact absurd (List.getLast?_eq_none_iff.mp q) h
  | some z => rfl
theorem getLast?_set_lt {ls : List Ln} {a : Nat} {l : Ln} (h : a + 1 < ls.length) : (ls.set a l).getLast? = ls.getLast? := by
  rw [List.getLast?_eq_getElem?, List.getLast?_eq_getElem?, List.length_set, List.getElem?_set_ne (by omega)]
theorem Good.set {c : Bool} {ls : List Ln} (h : Good c ls) {a : Nat} (ha : a + 1 < ls.length) {l : Ln} (hf : l.fit ls.length = true) (hc : l = .count → c = true) : Good c (ls.set a l) := by
  refine ⟨fun x hx => ?_, ?_, fun x hx e => ?_⟩
  · rw [List.length_set]
    rcases List.mem_or_eq_of_mem_set hx with q | q
    · exact h.fit x q
    · rw [q]; exact hf
  · rw [getLast?_set_lt ha]; exact h.last
  · rcases List.mem_or_eq_of_mem_set hx with q | q
    · exact h.cnt x q e
    · exact hc (q ▸ e)
def insL (ls : List Ln) (a : Nat) (l : Ln) : List Ln := (ls.map (Ln.mv a 1)).take a ++ [l] ++ (ls.map (Ln.mv a 1)).drop a
theorem insL_len {ls : List Ln} {a : Nat} {l : Ln} (ha : a ≤ ls.length) : (insL ls a l).length = ls.length + 1 := by
  unfold insL
  simp
  omega
theorem insL_mem {ls : List Ln} {a : Nat} {l x : Ln} (h : x ∈ insL ls a l) : x = l ∨ ∃ y ∈ ls, y.mv a 1 = x := by
  unfold insL at h
  rcases List.mem_append.mp h with h | h
  · rcases List.mem_append.mp h with h | h
    · have := List.mem_of_mem_take h
      exact .inr (List.mem_map.mp this)
    · exact .inl (List.mem_singleton.mp h)
  · have := List.mem_of_mem_drop h
    exact .inr (List.mem_map.mp this)
theorem Good.ins {c : Bool} {ls : List Ln} (h : Good c ls) {a : Nat} (ha : a + 1 < ls.length) {l : Ln} (hf : l.fit ((ls.length : Int) + 1) = true) (hc : l = .count → c = true) : Good c (insL ls a l) := by
  refine ⟨fun x hx => ?_, ?_, fun x hx e => ?_⟩
  · rw [insL_len (by omega)]
    rcases insL_mem hx with rfl | ⟨y, hy, rfl⟩
    · simpa using hf
    · exact mv_fit1 (h.fit y hy)
  · obtain ⟨z, hz, hl⟩ := h.last
    refine ⟨z.mv a 1, ?_, by rw [mv_last]; exact hl⟩
    unfold insL
    have hd : (ls.map (Ln.mv a 1)).drop a ≠ [] := by
      intro e
      have := congrArg List.length e
      simp at this
      omega
    rw [getLast?_app _ hd, List.getLast?_drop, if_neg (by simp; omega), List.getLast?_map, hz]
    rfl
  · rcases insL_mem hx with q | ⟨y, hy, q⟩
    · exact hc (q ▸ e)
    · exact h.cnt y hy (mv_count (q.trans e))
def delL (ls : List Ln) (a : Nat) : List Ln := (ls.take a ++ ls.drop (a + 1)).map (Ln.mv ((a : Int) + 1) (-1))
theorem delL_len {ls : List Ln} {a : Nat} (ha : a < ls.length) : (delL ls a).length = ls.length - 1 := by
  unfold delL
  simp
  omega
theorem Good.del {c : Bool} {ls : List Ln} (h : Good c ls) {a : Nat} (ha : a + 1 < ls.length) : Good c (delL ls a) := by
  have hm : ∀ x ∈ delL ls a, ∃ y ∈ ls, y.mv ((a : Int) + 1) (-1) = x := fun x hx => by
    obtain ⟨y, hy, e⟩ := List.mem_map.mp hx
    rcases List.mem_append.mp hy with q | q
    · exact ⟨y, List.mem_of_mem_take q, e⟩
    · exact ⟨y, List.mem_of_mem_drop q, e⟩
  refine ⟨fun x hx => ?_, ?_, fun x hx e => ?_⟩
  · rw [delL_len (by omega)]
    obtain ⟨y, hy, rfl⟩ := hm x hx
    have hl : ls.length - 1 + 1 = ls.length := by omega
    exact mv_fit2 (n := ls.length - 1) (by rw [hl]; exact h.fit y hy) (by omega)
  · obtain ⟨z, hz, hl⟩ := h.last
    refine ⟨z.mv ((a : Int) + 1) (-1), ?_, by rw [mv_last]; exact hl⟩
    unfold delL
    have hd : ls.drop (a + 1) ≠ [] := by
      intro e
      have := congrArg List.length e
      simp at this
      omega
    rw [List.getLast?_map, getLast?_app _ hd, List.getLast?_drop, if_neg (by omega), hz]
    rfl
  · obtain ⟨y, hy, q⟩ := hm x hx
    exact h.cnt y hy (mv_count (q.trans e))
/-- the known plans -/
def knownV : List (List Ln) := [[.count, .done 6, .add, .send, .wait, .go 0, .end_],
  [.recall, .done 8, .add, .send, .wait, .ok 7, .go 3, .note, .end_],
  [.recall, .done 9, .add, .send, .wait, .ok 7, .go 0, .note, .go 0, .end_],
  [.recall, .done 7, .add, .note, .send, .wait, .go 0, .end_],
  [.recall, .add, .send, .wait, .go 0, .end_],
  [.recall, .done 7, .add, .send, .wait, .note, .go 1, .end_]]
def goodB (c : Bool) (ls : List Ln) : Bool := ls.all (fun a => a.fit ls.length) && (match ls.getLast? with | some a => a.last | none => false) && ls.all fun a => !(a == .count) || c
theorem goodB_ok {c : Bool} {ls : List Ln} (h : goodB c ls = true) : Good c ls := by
  unfold goodB at h
  simp only [Bool.and_eq_true] at h
  obtain ⟨⟨h1, h2⟩, h3⟩ := h
  refine ⟨fun a ha => List.all_eq_true.mp h1 a ha, ?_, fun a ha e => ?_⟩
  · split at h2
    · rename_i a e
      exact ⟨a, e, h2⟩
    · cases h2
  · have := List.all_eq_true.mp h3 a ha
    subst e
    simpa using this
end DL
set_option maxHeartbeats 4000000
namespace DL
open PySem PySem.Spec PyProof.Rows L2
/-! ### courses -/
/-- a course by choices: where it leads -/
inductive Run (p : Pr) (ls : List Ln) (pages : Int) : List Int → Mo → Prop
  | nil : Run p ls pages [] firstV
  | snoc {cs m c} : Run p ls pages cs m → c ∈ choV ls m → Run p ls pages (cs ++ [c]) (stepV p ls pages m c).1
theorem Run.inR {p : Pr} {ls : List Ln} {pages : Int} {cs : List Int} {m : Mo} (f : Fits ls) (h : Run p ls pages cs m) : InR ls m := by
  induction h with
  | nil => exact InR.first f
  | snoc h hc ih => exact ih.step f
theorem choV_mem {ls : List Ln} {m : Mo} {c : Int} (h : c ∈ choV ls m) : 0 ≤ c ∧ c ≤ 5 := by
  unfold choV at h
  rcases List.mem_append.mp h with q | q
  · split at q <;> simp at q
    omega
  · split at q
    · split at q <;> simp at q <;> omega
    · split at q <;> simp at q
      omega
theorem Run.small {p : Pr} {ls : List Ln} {pages : Int} {cs : List Int} {m : Mo} (h : Run p ls pages cs m) : ∀ c ∈ cs, 0 ≤ c ∧ c ≤ 5 := by
  induction h with
  | nil => intro c hc; cases hc
  | snoc h hc ih =>
    intro c hcc
    rcases List.mem_append.mp hcc with q | q
    · exact ih c q
    · rw [List.mem_singleton.mp q]; exact choV_mem hc
/-! ### the law's promise -/
def awayV (n last : Int) : Bool := decide (3 < n) && decide (3 < (if n - last < 0 then -(n - last) else n - last))
/-- promise once (or least): broken by the step from a to b, put -/
def lbrV (once : Bool) (pages : Int) (a b : Mo) (put : Option Int) : Bool :=
  (match put with
    | some q => decide (q < 1) || (decide (pages < q) || (decide (a.last + 1 < q) || (once && !decide (q = a.last + 1))))
    | none => false) ||
  ((!a.line.isNone && (b.line.isNone && (isSh b.way || !decide (b.last = pages)))) ||
  ((awayV b.at_ b.last || (awayV b.note b.last || awayV b.lying b.last)) ||
  (match b.way with
    | .sheet n => awayV n b.last
    | _ => false)))
def promS (once : Bool) : Str := match once with
  | true => "once"
  | false => "least"
def promD (once : Bool) : D := .str (promS once)
@[simp] theorem promS_t : promS true = "once" := rfl
@[simp] theorem promS_f : promS false = "least" := rfl
theorem promS_of {z : Str} : ∀ {P : Prop}, (z = "once" → P) → (z = "least" → P) → z = "once" ∨ z = "least" → P := fun a b h => h.elim a b
end DL
set_option maxHeartbeats 4000000
namespace DL
open PySem PySem.Spec PyProof.Rows L2
/-! ### finite -/
theorem nodup_le {α : Type} [DecidableEq α] : ∀ {xs ys : List α}, xs.Nodup → (∀ x ∈ xs, x ∈ ys) → xs.length ≤ ys.length
  | [], ys, _, _ => by simp
  | x :: xs, ys, nd, h => by
    rw [List.nodup_cons] at nd
    have hx := h x (List.mem_cons_self ..)
    have ih := nodup_le (ys := ys.erase x) nd.2 fun y hy => by
      have : y ≠ x := fun e => nd.1 (e ▸ hy)
      exact (List.mem_erase_of_ne this).mpr (h y (List.mem_cons_of_mem _ hy))
    rw [List.length_erase_of_mem hx] at ih
    have : 0 < ys.length := List.length_pos_of_mem hx
    rw [List.length_cons]
    omega
/-! ### dicts by typed keys -/
structure KeyEnc {α : Type} (enc : α → D) (nk : α → NestedKey) : Prop where
  eq : ∀ a, nkD (enc a) = some (nk a)
  inj : ∀ a b, nk a = nk b → a = b
  dep : ∀ a, (nk a).depth ≤ 8
  tup : ∀ a, ∃ ds, enc a = .tup ds
def lkA {α β : Type} [DecidableEq α] : List (α × β) → α → Option β
  | [], _ => none
  | (a, v) :: r, x => if a = x then some v else lkA r x
def stA {α β : Type} [DecidableEq α] (x : α) (v : β) : List (α × β) → List (α × β)
  | [] => [(x, v)]
  | (a, u) :: r => if a = x then (a, v) :: r else (a, u) :: stA x v r
def encP {α β : Type} (enc : α → D) (kvs : List (α × β)) : List (D × β) := kvs.map fun p => (enc p.1, p.2)
section
variable {α β : Type} [DecidableEq α] {enc : α → D} {nk : α → NestedKey}
theorem keyD_enc (E : KeyEnc enc nk) (a : α) : keyD (.d (enc a)) = some (nk a) := by
  obtain ⟨ds, e⟩ := E.tup a
  have h := E.eq a
  rw [e] at h ⊢
  unfold keyD
  dsimp only
  rw [h]
  dsimp only
  rw [if_pos (E.dep a)]
theorem valN_enc (E : KeyEnc enc nk) (x : α) : ∀ kvs : List (α × β), valN (encP enc kvs) (nk x) = lkA kvs x
  | [] => rfl
  | (a, v) :: r => by
    show (if nkD (enc a) = some (nk x) then some v else valN (encP enc r) (nk x)) = if a = x then some v else lkA r x
    rw [E.eq a, valN_enc E x r]
    by_cases h : a = x
    · subst h
      rw [if_pos rfl, if_pos rfl]
    · rw [if_neg h, if_neg (fun z => h (E.inj _ _ (Option.some.inj z)))]
theorem putN_enc (E : KeyEnc enc nk) (x : α) (u : β) : ∀ kvs : List (α × β), putN (enc x) (nk x) u (encP enc kvs) = encP enc (stA x u kvs)
  | [] => rfl
  | (a, v) :: r => by
    show (if nkD (enc a) = some (nk x) then (enc a, u) :: encP enc r else (enc a, v) :: putN (enc x) (nk x) u (encP enc r)) = encP enc (if a = x then (a, u) :: r else (a, v) :: stA x u r)
    rw [E.eq a, putN_enc E x u r]
    by_cases h : a = x
    · subst h
      rw [if_pos rfl, if_pos rfl]
      rfl
    · rw [if_neg h, if_neg (fun z => h (E.inj _ _ (Option.some.inj z)))]
      rfl
theorem stA_new {x : α} {u : β} : ∀ {kvs : List (α × β)}, lkA kvs x = none → stA x u kvs = kvs ++ [(x, u)]
  | [], _ => rfl
  | (a, v) :: r, h => by
    unfold lkA at h
    by_cases q : a = x
    · rw [if_pos q] at h; cases h
    · rw [if_neg q] at h
      unfold stA
      rw [if_neg q, stA_new h]
      rfl
theorem lkA_none {x : α} : ∀ {kvs : List (α × β)}, lkA kvs x = none ↔ x ∉ kvs.map (·.1)
  | [] => by simp [lkA]
  | (a, v) :: r => by
    unfold lkA
    by_cases q : a = x
    · rw [if_pos q]; simp [q]
    · rw [if_neg q, lkA_none]
      simp only [List.map_cons, List.mem_cons, not_or]
      exact ⟨fun h => ⟨fun z => q z.symm, h⟩, fun h => h.2⟩
/-- a dict that only remembers -/
def mks (v : β) (xs : List α) : List (α × β) := xs.map fun x => (x, v)
theorem lkA_mks (v : β) (x : α) : ∀ xs : List α, lkA (mks v xs) x = if x ∈ xs then some v else none
  | [] => by simp [mks, lkA]
  | y :: xs => by
    show (if y = x then some v else lkA (mks v xs) x) = _
    rw [lkA_mks v x xs]
    by_cases h : y = x
    · simp [h]
    · have : x ≠ y := fun z => h z.symm
      simp [h, this]
end
/-! the data's keys -/
@[simp] theorem nk_non : nkD .non = some .none := rfl
@[simp] theorem nk_bl (b) : nkD (.bl b) = some (.num (if b = true then 1 else 0)) := rfl
@[simp] theorem nk_int (i) : nkD (.int i) = some (.num i) := rfl
@[simp] theorem nk_str (x) : nkD (.str x) = some (.text x) := rfl
def lineK : Option Int → NestedKey
  | none => .none
  | some i => .num i
def wayK : Way → NestedKey
  | .no => .none
  | .sheet n => .num n
  | .told b => .tup [.text "told", .num (if b = true then 1 else 0)]
def Mo.nk (m : Mo) : NestedKey := .tup [lineK m.line, .num m.at_, .num (if m.ok = true then 1 else 0), .num m.note, wayK m.way, .num m.last, .num m.lying]
theorem lineK_eq (a : Option Int) : nkD (lineD a) = some (lineK a) := by cases a <;> rfl
theorem wayK_eq (a : Way) : nkD a.d = some (wayK a) := by cases a <;> simp [Way.d, nkD, nkDs, wayK]
theorem boolK_inj {a b : Bool} (h : (if a = true then (1 : Int) else 0) = if b = true then 1 else 0) : a = b := by cases a <;> cases b <;> simp_all
theorem lineK_inj {a b : Option Int} (h : lineK a = lineK b) : a = b := by cases a <;> cases b <;> simp_all [lineK]
theorem wayK_inj {a b : Way} (h : wayK a = wayK b) : a = b := by
  cases a <;> cases b <;> simp_all [wayK]
  exact boolK_inj h
theorem moE : KeyEnc Mo.d Mo.nk where
  eq := fun m => by
    unfold Mo.d Mo.nk
    simp [nkD, nkDs, lineK_eq, wayK_eq]
  inj := fun a b h => by
    obtain ⟨a1, a2, a3, a4, a5, a6, a7⟩ := a
    obtain ⟨b1, b2, b3, b4, b5, b6, b7⟩ := b
    unfold Mo.nk at h
    injection h with h
    simp only [List.cons.injEq, NestedKey.num.injEq, and_true] at h
    obtain ⟨h1, h2, h3, h4, h5, h6, h7⟩ := h
    rw [lineK_inj h1, h2, boolK_inj h3, h4, wayK_inj h5, h6, h7]
  dep := fun m => by
    obtain ⟨a1, a2, a3, a4, a5, a6, a7⟩ := m
    cases a1 <;> cases a5 <;> simp [Mo.nk, lineK, wayK, NestedKey.depth, NestedKey.depthAll]
  tup := fun m => ⟨_, rfl⟩
/-! the operators by typed keys -/
@[simp] theorem s_newN {w : World} {et : Env} {m : Mu} : xNewN w et m = .ok (.l m.length) (m ++ [some (.dtn w [])]) := rfl
section
variable {α : Type} [DecidableEq α] {enc : α → D} {nk : α → NestedKey} {w : World} {m : Mu} {x y v : Va} {kvs : List (α × Va)} {a : α}
theorem oInN_enc (E : KeyEnc enc nk) {neg : Bool} (h : asN m y = some (w, encP enc kvs)) : oInN w neg (.d (enc a)) y m = .ok (.d (.bl (inG neg (lkA kvs a).isSome))) m := by
  unfold oInN
  rw [h, keyD_enc E]
  dsimp only
  rw [if_pos rfl, valN_enc E]
theorem oGetN_enc (E : KeyEnc enc nk) (h : asN m x = some (w, encP enc kvs)) (hv : lkA kvs a = some v) : oGetN w x (.d (enc a)) m = .ok v m := by
  unfold oGetN
  rw [h, keyD_enc E]
  dsimp only
  rw [valN_enc E, hv]
  dsimp only
  rw [if_pos rfl]
theorem oLenN_enc (h : asN m x = some (w, encP enc kvs)) : oLenN w [x] m = .ok (.d (.int kvs.length)) m := by
  unfold oLenN
  dsimp only
  rw [h]
  dsimp only
  rw [if_pos rfl]
  unfold encP
  rw [List.length_map]
theorem gSubN_enc (E : KeyEnc enc nk) {e : Env} {fo fi : Env → Mu → R Va} {n : Nat} (h1 : fo e m = .ok (.l n) m) (h2 : fi e m = .ok (.d (enc a)) m) (h3 : m[n]? = some (some (.dtn w (encP enc kvs)))) (hl : kvs.length < 16777216) : gSubN w fo fi v e m = .nx e (m.set n (some (.dtn w (encP enc (stA a v kvs))))) := by
  unfold gSubN
  rw [h1]
  dsimp only
  rw [h2]
  dsimp only
  rw [h3, keyD_enc E]
  dsimp only
  rw [if_pos ⟨rfl, by rw [sizeLine_eq]; unfold encP; rw [List.length_map]; exact hl⟩, putN_enc E]
end
theorem asN_l {w : World} {m : Mu} {n : Nat} {kvs : List (D × Va)} (h : m[n]? = some (some (.dtn w kvs))) : asN m (.l n) = some (w, kvs) := by
  unfold asN
  dsimp only
  rw [h]
/-! a moment's places -/
section
variable {m : Mo} {M : Mu}
theorem ix_mo0 : oIx (.d m.d) (.d (.int 0)) M = .ok (.d (lineD m.line)) M := by simp
theorem ix_mo1 : oIx (.d m.d) (.d (.int 1)) M = .ok (.d (.int m.at_)) M := by simp
theorem ix_mo2 : oIx (.d m.d) (.d (.int 2)) M = .ok (.d (.bl m.ok)) M := by simp
theorem ix_mo3 : oIx (.d m.d) (.d (.int 3)) M = .ok (.d (.int m.note)) M := by simp
theorem ix_mo4 : oIx (.d m.d) (.d (.int 4)) M = .ok (.d m.way.d) M := by simp
theorem ix_mo5 : oIx (.d m.d) (.d (.int 5)) M = .ok (.d (.int m.last)) M := by simp
theorem ix_mo6 : oIx (.d m.d) (.d (.int 6)) M = .ok (.d (.int m.lying)) M := by simp
end
/-! twins: how far the house goes -/
def twV (ls : List Ln) (pages : Int) : Nat → List Mo → Mo → Option (Option Nat)
  | 0, _, _ => none
  | n + 1, ms, m => if isSh m.way = true then some (some ms.length) else if m.line = none ∨ m ∈ ms ∨ 3 < m.at_ ∨ 3 < m.note then some none else twV ls pages n (ms ++ [m]) (goV ls pages m)
end DL
namespace DL
open PySem PySem.Spec PyProof.Rows L2
def twU : List Mo := (List.range 16).flatMap fun (i : Nat) => (List.range 4).flatMap fun (a : Nat) => [true, false].flatMap fun (k : Bool) => (List.range 4).map fun (n : Nat) => (⟨some (i : Int), (a : Int), k, (n : Int), .no, 0, 0⟩ : Mo)
theorem twU_len : twU.length = 512 := by decide +kernel
structure TwI (ls : List Ln) (m : Mo) : Prop where
  r : InR ls m
  a : 0 ≤ m.at_
  n : 0 ≤ m.note
  l : m.last = 0
  y : m.lying = 0
  w : ∀ b, m.way ≠ .told b
theorem TwI.mem {ls : List Ln} {m : Mo} (f : Fits ls) (h : TwI ls m) (hs : isSh m.way = false) (hl : m.line ≠ none) (ha : ¬ 3 < m.at_) (hn : ¬ 3 < m.note) : m ∈ twU := by
  obtain ⟨line, a2, a3, a4, w, a6, a7⟩ := m
  obtain ⟨r, a, n, l, y, ww⟩ := h
  simp only at a n l y ww hs hl ha hn
  subst l y
  cases line with
  | none => exact absurd rfl hl
  | some i =>
    obtain ⟨h0, h1⟩ := r.rng i rfl
    have hm := f.most
    cases w with
    | sheet _ => cases hs
    | told b => exact absurd rfl (ww b)
    | no =>
      obtain ⟨i', rfl⟩ := Int.eq_ofNat_of_zero_le h0
      obtain ⟨a', rfl⟩ := Int.eq_ofNat_of_zero_le a
      obtain ⟨n', rfl⟩ := Int.eq_ofNat_of_zero_le n
      unfold twU
      rw [List.mem_flatMap]
      refine ⟨i', by simp; omega, ?_⟩
      rw [List.mem_flatMap]
      refine ⟨a', by simp; omega, ?_⟩
      rw [List.mem_flatMap]
      refine ⟨a3, by cases a3 <;> simp, ?_⟩
      rw [List.mem_map]
      exact ⟨n', by simp; omega, rfl⟩
theorem TwI.go {ls : List Ln} {m : Mo} {pages : Int} (f : Fits ls) (h : TwI ls m) (hs : isSh m.way = false) : TwI ls (goV ls pages m) := by
  have r' := h.r.go (pages := pages) f
  obtain ⟨line, a2, a3, a4, w, a6, a7⟩ := m
  obtain ⟨r, a, n, l, y, ww⟩ := h
  simp only at a n l y ww hs
  refine ⟨r', ?_, ?_, ?_, ?_, ?_⟩
  all_goals
    unfold goV
    dsimp only
    repeat' split
    all_goals first
      | assumption
      | (simp only; omega)
      | (intro b e; cases e; done)
      | exact ww
      | skip
theorem tw_fuel {ls : List Ln} {pages : Int} (f : Fits ls) : ∀ (n : Nat) (ms : List Mo) (m : Mo), TwI ls m → (∀ x ∈ ms, x ∈ twU) → ms.Nodup → 512 < ms.length + n → twV ls pages n ms m ≠ none
  | 0, ms, m, _, hu, nd, hl => by
    have := nodup_le nd hu
    rw [twU_len] at this
    omega
  | n + 1, ms, m, h, hu, nd, hl => by
    unfold twV
    by_cases c : isSh m.way = true
    · rw [if_pos c]
      exact fun z => nomatch z
    · have c' : isSh m.way = false := by simpa using c
      rw [if_neg c]
      split
      · exact fun z => nomatch z
      · rename_i q
        have q1 : m.line ≠ none := fun z => q (.inl z)
        have q2 : m ∉ ms := fun z => q (.inr (.inl z))
        have q3 : ¬ 3 < m.at_ := fun z => q (.inr (.inr (.inl z)))
        have q4 : ¬ 3 < m.note := fun z => q (.inr (.inr (.inr z)))
        refine tw_fuel f n (ms ++ [m]) _ (h.go f c') (fun x hx => ?_) ?_ (by simp; omega)
        · rcases List.mem_append.mp hx with z | z
          · exact hu x z
          · rw [List.mem_singleton.mp z]
            exact h.mem f c' q1 q3 q4
        · rw [List.nodup_append]
          exact ⟨nd, by simp, fun x hx y hy e => q2 (by rw [List.mem_singleton.mp hy] at e; exact e ▸ hx)⟩
theorem tw_total {ls : List Ln} {pages : Int} (f : Fits ls) : ∃ r, twV ls pages 1000 [] firstV = some r := by
  have h := tw_fuel (pages := pages) f 1000 [] firstV ⟨InR.first f, by decide, by decide, rfl, rfl, fun b e => nomatch e⟩ (fun x hx => by cases hx) List.nodup_nil (by simp)
  exact Option.ne_none_iff_exists'.mp h
end DL
set_option maxHeartbeats 4000000
/-! a list of new lists, changed after it was read -/
namespace DL
open PySem PySem.Spec PyProof.Rows L2
/-- a new list of new lists -/
def RlFF (K : PySem.W.Frag) (H0 : Hp) : Hp → Hp → List Addr → List D → V → Prop := fun Hs H rh ds v => ∃ p vs, v = .ref p ∧ H0 p = none ∧ Hs p = none ∧ p ∉ rh ∧ H p = some (.lst vs) ∧ Reps K Hs ds vs ∧ ∀ u ∈ vs, ∃ b, u = .ref b ∧ H0 b = none
def cEF (K : PySem.W.Frag) (fl : Env → Mu → R (List D)) : TE := fun sg H Q => ∃ Hs rh et m, SR K Hs H rh sg et m ∧ Post K WF (RlF K H) Hs H rh sg et Q (fl et m)
theorem SF.canon {X : Cx} {e : Expr} {f : Env → Mu → R (List D)} (h : SF X WF e f) : PE X e (cEF X.K f) := by
  obtain ⟨t, p, r⟩ := h
  exact ⟨fun pins s sg H Q I ⟨Hs, rh, et, m, h1, h2⟩ => p.run pins s sg H Q I (r Hs H rh sg et m Q h1 h2)⟩
def dLcF (t : Va → Env → Env) (fl : Env → Mu → R (List D)) (et : Env) : List Va → Mu → List D → R (List D)
  | [], m, acc => .ok acc m
  | x :: xs, m, acc => (noX (fl (t x et) m)).bind fun ds m => if acc.length < sizeLine then dLcF t fl et xs m (acc ++ [.lst ds]) else .stuck
def xLcF (fi : Env → Mu → R (List Va)) (vs : List Nat) (t : Va → Env → Env) (fl : Env → Mu → R (List D)) : Env → Mu → R (List D) := fun et m => (fi et m).bind fun xs m => dLcF t fl (wipeD et vs) xs m []
section
variable {X : Cx} {W : WX} {elt tg iter : Expr} {ifs : List Expr} {scope : Scope} {own : List (Str × Nat)} {pos : Pos} {fi : Env → Mu → R (List Va)} {g : TG} {t : Va → Env → Env} {f : Env → Mu → R (List D)} {vs : List Nat} {okx : Va → Prop} {wi : TI}
theorem lc_readF (ri : ∀ Hs H rh sg et m Q, SR X.K Hs H rh sg et m → PostI X.K W Hs H rh sg et Q (fi et m) → wi sg H Q) (hg : TgLc X.K g vs t okx) (hall : ∀ et m xs m', fi et m = .ok xs m' → ∀ x ∈ xs, okx x)
    {Hs0 H0 : Hp} {rh0 : List Addr} {Hs H : Hp} {rh : List Addr} {sg : St2} {et : Env} {m : Mu} {Q : VK} (x0 : Ext Hs0 H0 rh0 Hs H rh) (s : SR X.K Hs H rh sg et m) (z : Post X.K W (RlFF X.K H0) Hs H rh sg et Q (xLcF fi vs t f et m)) : tLc wi g (cT X.K pYes) (cEF X.K f) vs sg H Q := by
  unfold xLcF at z
  refine ri Hs H rh sg et m _ s ?_
  cases qf : fi et m with
  | exc c d m1 => rw [qf] at z; exact z
  | stuck => rw [qf] at z; exact z
  | ok xs m1 =>
    rw [qf] at z
    have allx := hall et m xs m1 qf
    intro J Hs1 H1 rh1 x1 s1 gv Dd hD
    have hD0 : H0 Dd = none := Classical.byContradiction fun q => (x0.trans x1).there Dd q hD
    have hDs : Hs1 Dd = none := s1.sc.same.free hD
    have hDr : Dd ∉ rh1 := fun q => s1.sc.old Dd q hD
    have z1 : Post X.K W (RlFF X.K H0) Hs1 H1 rh1 sg et Q (dLcF t f (wipeD et vs) xs m1 []) := Post.ext x1 z
    refine ⟨fun i n H' => n = xs.length - i ∧ i ≤ xs.length ∧ ∃ Hs' rh' m' acc us, SR X.K Hs' H' rh' sg et m' ∧ Ext Hs1 H1 rh1 Hs' H' rh' ∧ Hs' Dd = none ∧ Dd ∉ rh' ∧ H' Dd = some (.lst us) ∧ Reps X.K Hs' acc us ∧ (∀ u ∈ us, ∃ b, u = .ref b ∧ H0 b = none) ∧ Post X.K W (RlFF X.K H0) Hs1 H1 rh1 sg et Q (dLcF t f (wipeD et vs) (xs.drop i) m' acc),
      ⟨xs.length, rfl, Nat.zero_le _, Hs1, rh1, m1, [], [], s1.aside hDs hDr, Ext.refl.aside hD, hDs, hDr, upd_same, reps_nil.mpr rfl, (fun u hu => by cases hu), by simpa using z1⟩, ?_⟩
    rintro i n H2 ⟨rfl, hle, Hs2, rh2, m2, acc, us, s2, x2, d1, d2, d3, ra, fr, z2⟩
    obtain ⟨g1, g2⟩ := gv Hs2 H2 rh2 m2 s2.sc x2.sub x2.pre i
    by_cases hlt : i < xs.length
    · obtain ⟨go, yl⟩ := g1 hlt
      have hd : xs.drop i = xs[i] :: xs.drop (i + 1) := List.drop_eq_getElem_cons hlt
      rw [hd] at z2
      have z3 : Post X.K W (RlFF X.K H0) Hs1 H1 rh1 sg et Q ((noX (f (t xs[i] (wipeD et vs)) m2)).bind fun ds m => if acc.length < sizeLine then dLcF t f (wipeD et vs) (xs.drop (i + 1)) m (acc ++ [.lst ds]) else .stuck) := z2
      refine .inr ⟨go, fun H' => i + 1 ≤ xs.length ∧ ∃ Hs' rh' m' acc us, SR X.K Hs' H' rh' sg et m' ∧ Ext Hs1 H1 rh1 Hs' H' rh' ∧ Hs' Dd = none ∧ Dd ∉ rh' ∧ H' Dd = some (.lst us) ∧ Reps X.K Hs' acc us ∧ (∀ u ∈ us, ∃ b, u = .ref b ∧ H0 b = none) ∧ Post X.K W (RlFF X.K H0) Hs1 H1 rh1 sg et Q (dLcF t f (wipeD et vs) (xs.drop (i + 1)) m' acc), fun H' h => ⟨xs.length - (i + 1), by omega, rfl, h.1, h.2⟩, fun x H3 hy => ?_⟩
      obtain ⟨Hs3, sc3, x3, rep3⟩ := yl x H3 hy
      have s3 : SR X.K Hs3 H3 rh2 sg et m2 := s2.ext x3 sc3
      obtain ⟨e1, e2, e3⟩ := x3.freeAt d3 d1 d2
      have ra3 := ra.mono x3.sub
      refine hg Hs3 H3 rh2 (wipe sg vs) (wipeD et vs) m2 xs[i] x _ (allx _ (List.getElem_mem hlt)) (s3.wipes vs) (rep3 _ (List.getElem?_eq_getElem hlt)) fun sg4 s4 hw => ⟨by rw [hw, wipe_wipe], Hs3, rh2, t xs[i] (wipeD et vs), m2, s4, ?_⟩
      intro b' Hs5 H5 rh5 x5 s5 eb
      have eb' : true = b' := eb
      subst eb'
      obtain ⟨f1, f2, f3⟩ := x5.freeAt e1 e2 e3
      have x15 := (x2.trans x3).trans x5
      have ra5 := ra3.mono x5.sub
      have s5' : SR X.K Hs5 H5 rh5 sg et m2 := s3.ext x5 s5.sc
      refine iteT ⟨Hs5, rh5, t xs[i] (wipeD et vs), m2, s5, ?_⟩
      cases qe : f (t xs[i] (wipeD et vs)) m2 with
      | ok ds m6 =>
        rw [qe] at z3
        simp only [noX, R.bind_ok] at z3
        intro v Hs6 H6 rh6 x6 s6 rv
        have rv0 := rv
        obtain ⟨b, ws, hb, b0, _⟩ := rv0
        have b00 : H0 b = none := Classical.byContradiction fun q => (x0.trans (x1.trans x15)).there b q b0
        obtain ⟨Hs7, x7, s7, rv7⟩ := RlF.frz x6 s6 rv
        obtain ⟨h1, h2, h3⟩ := x7.freeAt f1 f2 f3
        by_cases cl : acc.length < sizeLine
        · rw [if_pos cl] at z3
          refine ⟨us, h1, by rw [ra.length]; exact cl, hlt, Hs7, rh6, m6, acc ++ [.lst ds], us ++ [v], (s5'.ext x7 s7.sc).aside h2 h3, (x15.trans x7).aside hD, h2, h3, upd_same, (ra5.mono x7.sub).append (Reps.one (show Rep X.K Hs7 (.lst ds) v from rv7)), ?_, z3⟩
          intro u hu
          rcases List.mem_append.mp hu with hu | hu
          · exact fr u hu
          · rw [List.mem_singleton.mp hu]
            exact ⟨b, hb, b00⟩
        · rw [if_neg cl] at z3
          exact z3.elim
      | exc c d m6 => rw [qe] at z3; exact z3.elim
      | stuck => rw [qe] at z3; exact z3.elim
    · have hi : i = xs.length := by omega
      subst hi
      refine .inl ⟨g2 rfl, ?_⟩
      rw [List.drop_length] at z2
      exact z2 (.ref Dd) Hs2 H2 rh2 x2 s2 ⟨Dd, us, rfl, hD0, d1, d2, d3, ra, fr⟩
end
/-! ### lists let go -/
mutual
/-- data without lists -/
def lf : D → Bool
  | .non => true
  | .bl _ => true
  | .int _ => true
  | .str _ => true
  | .tup ds => lfs ds
  | .obj _ fs => lfF fs
  | .ty _ => true
  | .cls _ => true
  | _ => false
def lfs : List D → Bool
  | [] => true
  | d :: ds => lf d && lfs ds
def lfF : List (Str × D) → Bool
  | [] => true
  | (_, d) :: fs => lf d && lfF fs
end
def lfC : Option Ce → Bool
  | some (.lst ds) => lfs ds
  | _ => false
open Classical in
noncomputable def thaw (Hs Hs1 : Hp) : Hp := fun b => if Hs b ≠ none then Hs b else match Hs1 b with
  | some (.lst _) => none
  | o => o
section
variable {K : PySem.W.Frag} {Hs Hs1 : Hp}
theorem thaw_old {b : Addr} {o : HO} (h : Hs b = some o) : thaw Hs Hs1 b = some o := by
  unfold thaw
  rw [if_pos (by rw [h]; exact fun z => nomatch z), h]
theorem thaw_some {b : Addr} {o : HO} (sm : Same Hs Hs1) (h : thaw Hs Hs1 b = some o) : Hs1 b = some o ∧ ((∀ vs, o ≠ .lst vs) ∨ Hs b = some o) := by
  unfold thaw at h
  split at h
  · exact ⟨sm _ _ h, .inr h⟩
  · split at h
    · cases h
    · rename_i q
      exact ⟨h, .inl fun vs e => q vs (by rw [h, e])⟩
theorem thaw_keep {b : Addr} {o : HO} (sm : Same Hs Hs1) (h : Hs1 b = some o) (hn : ∀ vs, o ≠ .lst vs) : thaw Hs Hs1 b = some o := by
  unfold thaw
  split
  · rename_i q
    cases r : Hs b with
    | none => exact absurd r q
    | some u => rw [← h]; exact (sm _ _ r).symm
  · rw [h]
    cases o with
    | lst vs => exact absurd rfl (hn vs)
    | _ => rfl
theorem thaw_same (sm : Same Hs Hs1) : Same Hs (thaw Hs Hs1) := fun b o h => thaw_old h
mutual
theorem rep_thaw (sm : Same Hs Hs1) : ∀ {d : D} {v : V}, lf d = true → Rep K Hs1 d v → Rep K (thaw Hs Hs1) d v
  | .non, v, _, h => by simpa only [Rep] using h
  | .bl b, v, _, h => by simpa only [Rep] using h
  | .int i, v, _, h => by simpa only [Rep] using h
  | .str x, v, _, h => by simpa only [Rep] using h
  | .ty n, v, _, h => by simpa only [Rep] using h
  | .cls n, v, _, h => by simpa only [Rep] using h
  | .tup ds, v, l, h => by
    simp only [lf] at l
    simp only [Rep] at h ⊢
    obtain ⟨a, vs, e1, e2, e3⟩ := h
    refine ⟨a, vs, e1, ?_, reps_thaw sm l e3⟩
    rcases e2 with (e2 | ⟨o, e2⟩) | e2
    · exact .inl (.inl (thaw_keep sm e2 fun vs e => nomatch e))
    · exact .inl (.inr ⟨o, thaw_keep sm e2 fun vs e => nomatch e⟩)
    · exact .inr e2
  | .obj c fs, v, l, h => by
    simp only [lf] at l
    simp only [Rep] at h ⊢
    obtain ⟨a, dx, vs, e1, e2, e3⟩ := h
    exact ⟨a, dx, vs, e1, thaw_keep sm e2 fun vs e => (nomatch e), repF_thaw sm l e3⟩
  | .lst _, _, l, _ => by simp [lf] at l
  | .dct _, _, l, _ => by simp [lf] at l
  | .scr _, _, l, _ => by simp [lf] at l
  | .exn _ _ _ _, _, l, _ => by simp [lf] at l
  | .dtn _ _, _, l, _ => by simp [lf] at l
theorem reps_thaw (sm : Same Hs Hs1) : ∀ {ds : List D} {vs : List V}, lfs ds = true → Reps K Hs1 ds vs → Reps K (thaw Hs Hs1) ds vs
  | [], vs, _, h => by simpa only [Reps] using h
  | d :: ds, vs, l, h => by
    simp only [lfs, Bool.and_eq_true] at l
    simp only [Reps] at h ⊢
    obtain ⟨v, r, e1, e2, e3⟩ := h
    exact ⟨v, r, e1, rep_thaw sm l.1 e2, reps_thaw sm l.2 e3⟩
theorem repF_thaw (sm : Same Hs Hs1) : ∀ {ds : List (Str × D)} {vs : List (Str × V)}, lfF ds = true → RepF K Hs1 ds vs → RepF K (thaw Hs Hs1) ds vs
  | [], vs, _, h => by simpa only [RepF] using h
  | (x, d) :: ds, vs, l, h => by
    simp only [lfF, Bool.and_eq_true] at l
    simp only [RepF] at h ⊢
    obtain ⟨v, r, e1, e2, e3⟩ := h
    exact ⟨v, r, e1, rep_thaw sm l.1 e2, repF_thaw sm l.2 e3⟩
end
end
section
variable {X : Cx} {W : WX} {s1 s2 s3 s4 : Stmt} {rest : List Stmt} {i j : Nat} {f1 : Env → Mu → R (List D)} {f2 : Env → Mu → R Va} {v : Env → Mu → RS} {d3 d4 : D} {e1 : TE} {t2 e3 e4 : TE} {v3 v4 : V}
/-- given = a new list of new lists; made = f2; given[0].append(..); given.append(..) -/
def zThaw (i j : Nat) (f1 : Env → Mu → R (List D)) (f2 : Env → Mu → R Va) (v : Env → Mu → RS) : Env → Mu → RS := fun e m => match f1 e m with
  | .ok (.lst xs :: ds) m1 => (match f2 (e.set i (some (.d (.lst (.lst xs :: ds))))) m1 with
    | .ok (.d d) m2 => if lf d = true ∧ m2.all lfC = true ∧ xs.length + 1 < sizeLine ∧ ds.length + 2 < sizeLine ∧ i ≠ j ∧ i < e.length ∧ j < e.length then v ((e.set i none).set j (some (.d d))) m2 else .stuck
    | _ => .stuck)
  | _ => .stuck
theorem sb_thaw {te : TE} (h1 : PS X s1 (tAsg te (gName i))) (r1 : ∀ Hs H rh sg et m Q, SR X.K Hs H rh sg et m → Post X.K W (RlFF X.K H) Hs H rh sg et Q (f1 et m) → te sg H Q)
    {te2 : TE} (h2 : PS X s2 (tAsg te2 (gName j))) (r2 : ∀ Hs H rh sg et m Q, SR X.K Hs H rh sg et m → Post X.K W (RlA X.K) Hs H rh sg et Q (f2 et m) → te2 sg H Q)
    (h3 : PS X s3 (tDrop (tBM X.K "list" rAppend (tOp (rIx X.K) (tVar i) (tC (.int 0))) (tCons (tC v3) tNil)))) (h4 : PS X s4 (tDrop (tBM X.K "list" rAppend (tVar i) (tCons (tC v4) tNil)))) (hr : SB X W rest v) :
    SB X W (s1 :: s2 :: s3 :: s4 :: rest) (zThaw i j f1 f2 v) := by
  obtain ⟨t5, h5, r5⟩ := hr
  refine ⟨_, pss_cons h1 (pss_cons h2 (pss_cons h3 (pss_cons h4 h5))), fun Hs H rh sg et m Dn s z => ?_⟩
  unfold zThaw at z
  refine r1 Hs H rh sg et m _ s ?_
  split at z
  · rename_i xs ds m1 q1
    rw [q1]
    intro va Hs1 H1 rh1 x1 s1' rl
    obtain ⟨a, vs, rfl, a0, aS, aR, aH, aD, aF⟩ := rl
    have fz := RlF.frz (H := H) (Hs := Hs) (rh := rh) x1 s1' ⟨a, vs, rfl, a0, aS, aR, aH, aD⟩
    obtain ⟨Hs2, x2, s2', rv⟩ := fz
    have s1b := s2'.set (i := i) rv
    refine r2 Hs2 H1 rh1 _ _ m1 _ s1b ?_
    split at z
    · rename_i d m2 q2
      rw [q2]
      split at z
      · rename_i hc
        obtain ⟨c1, c2, c3, c4, c5, c6, c7⟩ := hc
        intro v2 Hs3 H3 rh3 x3 s3 rep2
        have x23 := x2.trans x3
        have rv' : Rep X.K Hs2 (.lst (.lst xs :: ds)) (.ref a) := rv
        simp only [Rep] at rv'
        obtain ⟨a', vs', ea, eh, er⟩ := rv'
        cases ea
        have evs : vs' = vs := by
          have := s2'.sc.same _ _ eh
          rw [aH] at this
          cases this
          rfl
        subst evs
        have ha2 : Hs3 a = some (.lst vs') := x3.sub _ _ eh
        have ha3 : H3 a = some (.lst vs') := s3.sc.same _ _ ha2
        simp only [Reps, Rep] at er
        obtain ⟨u0, r0, rfl, ⟨b, ws, rfl, hb2, hws⟩, hds⟩ := er
        obtain ⟨b', eb, b0⟩ := aF (.ref b) (List.mem_cons_self ..)
        cases eb
        have hb3 : Hs3 b = some (.lst ws) := x3.sub _ _ hb2
        have hb4 : H3 b = some (.lst ws) := s3.sc.same _ _ hb3
        have lw : ws.length = xs.length := hws.length
        have lr : r0.length = ds.length := hds.length
        have hsl : sg.length = et.length := s.len
        have gi : (List.set (List.set sg i (some (.ref a))) j (some v2))[i]? = some (some (.ref a)) := by
          rw [List.getElem?_set_ne (fun e => c5 e.symm), List.getElem?_set_self (by rw [hsl]; exact c6)]
        refine ⟨.ref a, gi, ?_⟩
        have at0 : atI (V.ref b :: r0) 0 = some (V.ref b) := by
          unfold atI ixN
          rw [if_pos (by decide), if_pos (by rw [List.length_cons]; omega)]
          rfl
        refine .inl ⟨a, _, 0, .ref b, rfl, rfl, SqL.of ha3, at0, ?_⟩
        refine ⟨.inl ⟨rfl, ws, SqL.of hb4⟩, b, ws, v3, rfl, rfl, hb4, by omega, ?_⟩
        have h4a : ∃ us, upd H3 b (.lst (ws ++ [v3])) a = some (.lst us) ∧ us.length < sizeLine := by
          by_cases e : a = b
          · subst e
            rw [ha3] at hb4
            cases hb4
            refine ⟨_, upd_same, ?_⟩
            rw [List.length_append, List.length_cons, List.length_singleton]
            omega
          · refine ⟨_, by rw [upd_ne e]; exact ha3, ?_⟩
            rw [List.length_cons]
            omega
        obtain ⟨us, hus, lus⟩ := h4a
        refine ⟨.ref a, gi, .inl ⟨rfl, us, SqL.of hus⟩, a, us, v4, rfl, rfl, hus, lus, ?_⟩
        have up : ∀ q, q ≠ a → q ≠ b → upd (upd H3 b (.lst (ws ++ [v3]))) a (.lst (us ++ [v4])) q = H3 q := fun q h1 h2 => by rw [upd_ne h1, upd_ne h2]
        have upn : ∀ q, H3 q ≠ none → upd (upd H3 b (.lst (ws ++ [v3]))) a (.lst (us ++ [v4])) q ≠ none := fun q h => by
          by_cases h1 : q = a
          · rw [h1, upd_same]; exact fun z => nomatch z
          · rw [upd_ne h1]
            by_cases h2 : q = b
            · rw [h2, upd_same]; exact fun z => nomatch z
            · rw [upd_ne h2]; exact h
        generalize upd (upd H3 b (.lst (ws ++ [v3]))) a (.lst (us ++ [v4])) = H5 at up upn
        have sm := x23.sub
        have hsa : Hs a = none := s.sc.same.free a0
        have hsb : Hs b = none := s.sc.same.free b0
        have X5 : Ext Hs H rh (thaw Hs Hs3) H5 rh3 := by
          refine ⟨thaw_same sm, x23.pre, fun q o h hq => ?_, fun q h => upn q (x23.there q h), x23.new, fun q h => ?_⟩
          · have h1 : q ≠ a := fun e => by rw [e, a0] at h; cases h
            have h2 : q ≠ b := fun e => by rw [e, b0] at h; cases h
            rw [up q h1 h2]
            exact x23.keep q o h hq
          · cases e : thaw Hs Hs3 q with
            | none => exact absurd e h
            | some o => exact x23.froz q (by rw [(thaw_some sm e).1]; exact fun z => nomatch z)
        have S5 : SR X.K (thaw Hs Hs3) H5 rh3 (List.set (List.set sg i (some (.ref a))) j (some v2)) ((et.set i none).set j (some (.d d))) m2 := by
          refine ⟨⟨fun q o h => ?_, s3.sc.mlen, fun n c e => ?_, s3.sc.nd, fun q h => upn q (s3.sc.old q h)⟩, ?_, fun k d' hk => ?_⟩
          · obtain ⟨h1, h2⟩ := thaw_some sm h
            have n1 : q ≠ a := fun e => by
              subst e
              rw [ha2] at h1
              cases h1
              rcases h2 with h2 | h2
              · exact h2 _ rfl
              · rw [hsa] at h2; cases h2
            have n2 : q ≠ b := fun e => by
              subst e
              rw [hb3] at h1
              cases h1
              rcases h2 with h2 | h2
              · exact h2 _ rfl
              · rw [hsb] at h2; cases h2
            rw [up q n1 n2]
            exact s3.sc.same _ _ h1
          · obtain ⟨q, o, g1, g2, g3, g4⟩ := s3.sc.cell n c e
            have n1 : q ≠ a := fun e => by rw [e, ha2] at g2; cases g2
            have n2 : q ≠ b := fun e => by rw [e, hb3] at g2; cases g2
            have hl : lfC (some c) = true := List.all_eq_true.mp c2 _ (List.mem_of_getElem? e)
            refine ⟨q, o, g1, ?_, by rw [up q n1 n2]; exact g3, ?_⟩
            · cases e : thaw Hs Hs3 q with
              | none => rfl
              | some o => rw [(thaw_some sm e).1] at g2; cases g2
            · cases c with
              | lst ys =>
                obtain ⟨vs, e1, e2⟩ := g4
                exact ⟨vs, e1, reps_thaw sm hl e2⟩
              | _ => simp [lfC] at hl
          · simp [hsl]
          · have hk' := hk
            by_cases kj : j = k
            · subst kj
              rw [List.getElem?_set_self (by simp; exact c7)] at hk
              cases hk
              exact ⟨v2, by rw [List.getElem?_set_self (by simp [hsl]; exact c7)], rep_thaw sm c1 rep2⟩
            · rw [List.getElem?_set_ne kj] at hk
              by_cases ki : i = k
              · subst ki
                rw [List.getElem?_set_self c6] at hk
                cases hk
              · rw [List.getElem?_set_ne ki] at hk
                obtain ⟨w, w1, w2⟩ := s.val k d' hk
                exact ⟨w, by rw [List.getElem?_set_ne kj, List.getElem?_set_ne ki]; exact w1, w2.ext X5⟩
        exact r5 _ H5 rh3 _ _ m2 Dn S5 (PostS.ext X5 z)
      · exact z.elim
    · exact z.elim
  · exact z.elim
end
section
variable {X : Cx} {W : WX} {elt tg iter : Expr} {scope : Scope} {own : List (Str × Nat)} {pos spos : Pos} {fi : Env → Mu → R (List Va)} {fl : Env → Mu → R (List D)} {f2 : Env → Mu → R Va} {v : Env → Mu → RS} {rest : List Stmt}
theorem sb_thawL {i j l : Nat} {y z : Str} {py pz py3 py4 : Pos} {e2 : Expr} {p2 p3 p3a p3b p3c p3d p3e p4 p4a p4b p4c : Pos} {k0 k1 k2} {x3 : Str} {n4 : Int} (hc : X.calm = true) (hN : X.N.Nodup) (hy : X.N[i]? = some y) (hyl : X.env.scope.names.lookup y = some .local) (hyv : Vis X.env.scope y) (hz : X.N[j]? = some z) (hzl : X.env.scope.names.lookup z = some .local)
    (hsw : swapsWith (.ListComp elt [⟨tg, iter, [], 0⟩] scope pos) (some (.Name y py)) spos.line X.env = pure true) (hi : SI X W tg iter fi) (ok : BlkOk X.N X.env.scope scope own) (ho : own.map (·.2) = [l])
    (hg : ∀ (s : Shared) (H : Hp) (C : Addr) (cl : List (Str × Addr)) (fp : List Addr), PG (X.blk s H scope (compEnvC scope cl C X.env) fp) tg (gName l))
    (he : ∀ (s : Shared) (H : Hp) (C : Addr) (cl : List (Str × Addr)) (fp : List Addr), SF (X.blk s H scope (compEnvC scope cl C X.env) fp) WF elt fl)
    (h2 : SE X W e2 f2) (hr : SB X W rest v) (hs : ∀ x, foldedSetIterable iter X.env x = pure x := by intro _; rfl) (hs2 : swapsWith e2 (some (.Name z pz)) p2.line X.env = pure false := by rfl)
    (h3 : PE X (.Call (.Attribute (.Subscript (.Name y py3) (.Constant (.int 0) k0 p3a) p3b) "append" p3c) [.Constant (.str x3) k1 p3d] [] p3e) (tBM X.K "list" rAppend (tOp (rIx X.K) (tVar i) (tC (.int 0))) (tCons (tC (.str x3)) tNil)))
    (h4 : PE X (.Call (.Attribute (.Name y py4) "append" p4a) [.Constant (.int n4) k2 p4b] [] p4c) (tBM X.K "list" rAppend (tVar i) (tCons (tC (.int n4)) tNil)))
    (hs3 : swapsWith (.Call (.Attribute (.Subscript (.Name y py3) (.Constant (.int 0) k0 p3a) p3b) "append" p3c) [.Constant (.str x3) k1 p3d] [] p3e) none p3.line X.env = pure false := by rfl) (hs4 : swapsWith (.Call (.Attribute (.Name y py4) "append" p4a) [.Constant (.int n4) k2 p4b] [] p4c) none p4.line X.env = pure false := by rfl) :
    SB X W (.Assign [.Name y py] (.ListComp elt [⟨tg, iter, [], 0⟩] scope pos) spos :: .Assign [.Name z pz] e2 p2 :: .Expr (.Call (.Attribute (.Subscript (.Name y py3) (.Constant (.int 0) k0 p3a) p3b) "append" p3c) [.Constant (.str x3) k1 p3d] [] p3e) p3 :: .Expr (.Call (.Attribute (.Name y py4) "append" p4a) [.Constant (.int n4) k2 p4b] [] p4c) p4 :: rest)
      (zThaw i j (xLcF fi [l] (tN l) fl) f2 v) := by
  obtain ⟨wi, hi, ri⟩ := hi
  obtain ⟨te2, h2, r2⟩ := h2
  have ht : ∀ (s : Shared) (H : Hp) (C : Addr) (cl : List (Str × Addr)) (fp : List Addr), STs (X.blk s H scope (compEnvC scope cl C X.env) fp) [] pYes := fun _ _ _ _ _ => sts_nil
  have ps := ps_setLc (tt := cT X.K pYes) (te := cEF X.K fl) (wi := wi) hc hN hy hyl hsw hi ok hg ht (fun s H C cl fp => (he s H C cl fp).canon) hs
  rw [ho] at ps
  refine sb_thaw ps (fun Hs H rh sg et m Q s z => lc_readF ri tgLc_name (fun _ _ _ _ _ _ _ => trivial) .refl s z) (ps_set hN hz (.inl hzl) h2 hs2 (.inr hzl)) r2 (ps_expr h3 hs3) (ps_expr h4 hs4) hr
end
end DL
set_option maxHeartbeats 4000000
namespace DL
open PySem PySem.Spec PyProof.Rows L2
abbrev OWN : List Str := ["Printer", "Plan"]
abbrev ERRS : List Str := ["BadValue", "BadLine"]
abbrev ERRP : List Str := "PageError" :: ERRS
abbrev ERRT : List String := ["ValueError", "LookupError", "ArithmeticError"]
def top (i : Nat) : Stmt := PySem.Challenge.pw_pagesonce_k01_printers_and_plans_as_give.main.body.getD i (.Pass ⟨0, 0, 0, 0⟩)
/-! ### is_integer -/
abbrev nm_is_integer : List Str := ["value"]
abbrev ps_is_integer : List Str := ["value"]
theorem sc_is_integer : FnScope nm_is_integer ps_is_integer (defScope (top 5)) := ⟨rfl, rfl, rfl, by decide +kernel, rfl, by decide +kernel, by decide +kernel⟩
theorem nd_is_integer : nm_is_integer.Nodup := sc_is_integer.nd
noncomputable def g_is_integer : Env → Mu → RS :=
  zRet (xAnd (xCB (oIs OWN) (xCons (xVar 0) (xCons (xC (.ty "int")) (xNil)))) (xNot (xCB (oIs OWN) (xCons (xVar 0) (xCons (xC (.ty "bool")) (xNil))))))
theorem sb_is_integer {P : Program} {w : World} {K : PySem.W.Frag} {mg : Str → Option Value} {base : Heap} (m_int : mg "int" = none) (m_isinstance : mg "isinstance" = none) (kI : IsiK K OWN) (m_bool : mg "bool" = none) : ∀ (f : Addr) cd A outer s H E, Cok (cxD P w K mg base nm_is_integer "is_integer" (defScope (top 5)) f cd A outer s H E) (fun c d _ H => E c d H) 0 → SB (cxD P w K mg base nm_is_integer "is_integer" (defScope (top 5)) f cd A outer s H E) (fun c d _ H => E c d H) (defBody (top 5)) g_is_integer := fun f cd A outer s H E C =>
  (sb_one (ss_ret (se_and (se_cb (cs_is kI) rfl m_isinstance (by decide +kernel) (sa_cons (se_var 0 rfl (.inl rfl)) (sa_cons (se_tyN rfl m_int (by decide +kernel)) sa_nil))) (se_one (se_not (se_cb (cs_is kI) rfl m_isinstance (by decide +kernel) (sa_cons (se_var 0 rfl (.inl rfl)) (sa_cons (se_tyN rfl m_bool (by decide +kernel)) sa_nil))))))))
-- kind: P
def F_is_integer : List D → R0 := fun ds => match ds with
  | [d] => if okD OWN d = true then .ok (.bl (isIntD d)) else .stuck
  | _ => .stuck
theorem eq_is_integer : ∀ ds, ds.length = 1 → F_is_integer ds ≠ .stuck → outP (g_is_integer (startD 1 (ds.map .d)) []) = F_is_integer ds := by
  intro ds hl h
  unfold F_is_integer at h ⊢
  split at h <;> try exact absurd rfl h
  rename_i d
  split at h <;> try exact absurd rfl h
  rename_i hd
  cases d <;> simp_all [g_is_integer, bTys]
theorem ok_is_integer {P : Program} {w : World} {K : PySem.W.Frag} {mg : Str → Option Value} {base : Heap} (d : DefOk K mg "is_integer" "is_integer" "is_integer" (top 5)) (m_int : mg "int" = none) (m_isinstance : mg "isinstance" = none) (kI : IsiK K OWN) (m_bool : mg "bool" = none) : FnP P w K mg base 1 "is_integer" 1 F_is_integer :=
  okP d sc_is_integer rfl (fun _ _ _ _ _ _ us hl => match us, hl with | [_], _ => rfl) (sb_is_integer m_int m_isinstance kI m_bool) eq_is_integer
/-! ### is_within -/
abbrev nm_is_within : List Str := ["value", "low", "high"]
abbrev ps_is_within : List Str := ["value", "low", "high"]
theorem sc_is_within : FnScope nm_is_within ps_is_within (defScope (top 6)) := ⟨rfl, rfl, rfl, by decide +kernel, rfl, by decide +kernel, by decide +kernel⟩
theorem nd_is_within : nm_is_within.Nodup := sc_is_within.nd
noncomputable def g_is_within : Env → Mu → RS :=
  zRet (xAnd (xCallP 1 F_is_integer (xCons (xVar 0) (xNil))) (xChain oLe oLe (xVar 1) (xVar 0) (xVar 2)))
theorem sb_is_within {P : Program} {w : World} {K : PySem.W.Frag} {mg : Str → Option Value} {base : Heap} (h_is_integer : FnP P w K mg base 1 "is_integer" 1 F_is_integer) : ∀ (f : Addr) cd A outer s H E, Cok (cxD P w K mg base nm_is_within "is_within" (defScope (top 6)) f cd A outer s H E) (fun c d _ H => E c d H) 1 → SB (cxD P w K mg base nm_is_within "is_within" (defScope (top 6)) f cd A outer s H E) (fun c d _ H => E c d H) (defBody (top 6)) g_is_within := fun f cd A outer s H E C =>
  (sb_one (ss_ret (se_and (se_callP h_is_integer (C.hr.mono (by first | decide | omega)) C.tk rfl (sa_cons (se_var 0 rfl (.inl rfl)) sa_nil)) (se_one (se_chain os_le os_le (se_var 1 rfl (.inl rfl)) (se_var 0 rfl (.inl rfl)) (se_var 2 rfl (.inl rfl)))))))
-- kind: P
def F_is_within : List D → R0 := fun ds => match ds with
  | [d, .int lo, .int hi] => if okD OWN d = true then .ok (.bl (withinD d lo hi)) else .stuck
  | _ => .stuck
theorem eq_is_within : ∀ ds, ds.length = 3 → F_is_within ds ≠ .stuck → outP (g_is_within (startD 3 (ds.map .d)) []) = F_is_within ds := by
  intro ds hl h
  unfold F_is_within at h ⊢
  split at h <;> try exact absurd rfl h
  rename_i d lo hi
  split at h <;> try exact absurd rfl h
  rename_i hd
  cases d <;> simp_all [g_is_within, F_is_integer, bTys]
  rename_i i
  by_cases c : lo ≤ i <;> simp -implicitDefEqProofs [c]
theorem ok_is_within {P : Program} {w : World} {K : PySem.W.Frag} {mg : Str → Option Value} {base : Heap} (d : DefOk K mg "is_within" "is_within" "is_within" (top 6)) (h_is_integer : FnP P w K mg base 1 "is_integer" 1 F_is_integer) : FnP P w K mg base 2 "is_within" 3 F_is_within :=
  okP d sc_is_within rfl (fun _ _ _ _ _ _ us hl => match us, hl with | [_, _, _], _ => rfl) (sb_is_within h_is_integer) eq_is_within
/-! ### is_sequence -/
abbrev nm_is_sequence : List Str := ["value"]
abbrev ps_is_sequence : List Str := ["value"]
theorem sc_is_sequence : FnScope nm_is_sequence ps_is_sequence (defScope (top 7)) := ⟨rfl, rfl, rfl, by decide +kernel, rfl, by decide +kernel, by decide +kernel⟩
theorem nd_is_sequence : nm_is_sequence.Nodup := sc_is_sequence.nd
noncomputable def g_is_sequence : Env → Mu → RS :=
  zRet (xCB (oIs OWN) (xCons (xVar 0) (xCons (xTup (xCons (xC (.ty "list")) (xCons (xC (.ty "tuple")) (xNil)))) (xNil))))
theorem sb_is_sequence {P : Program} {w : World} {K : PySem.W.Frag} {mg : Str → Option Value} {base : Heap} (m_tuple : mg "tuple" = none) (m_list : mg "list" = none) (m_isinstance : mg "isinstance" = none) (kI : IsiK K OWN) : ∀ (f : Addr) cd A outer s H E, Cok (cxD P w K mg base nm_is_sequence "is_sequence" (defScope (top 7)) f cd A outer s H E) (fun c d _ H => E c d H) 0 → SB (cxD P w K mg base nm_is_sequence "is_sequence" (defScope (top 7)) f cd A outer s H E) (fun c d _ H => E c d H) (defBody (top 7)) g_is_sequence := fun f cd A outer s H E C =>
  (sb_one (ss_ret (se_cb (cs_is kI) rfl m_isinstance (by decide +kernel) (sa_cons (se_var 0 rfl (.inl rfl)) (sa_cons (se_tup (sa_cons (se_tyN rfl m_list (by decide +kernel)) (sa_cons (se_tyN rfl m_tuple (by decide +kernel)) sa_nil))) sa_nil)))))
-- kind: P
def F_is_sequence : List D → R0 := fun ds => match ds with
  | [d] => if okD OWN d = true then .ok (.bl (seqD d).isSome) else .stuck
  | _ => .stuck
theorem eq_is_sequence : ∀ ds, ds.length = 1 → F_is_sequence ds ≠ .stuck → outP (g_is_sequence (startD 1 (ds.map .d)) []) = F_is_sequence ds := by
  intro ds hl h
  unfold F_is_sequence at h ⊢
  split at h <;> try exact absurd rfl h
  rename_i d
  split at h <;> try exact absurd rfl h
  rename_i hd
  cases d <;> simp_all [g_is_sequence, bTys, sizeLine_eq]
theorem ok_is_sequence {P : Program} {w : World} {K : PySem.W.Frag} {mg : Str → Option Value} {base : Heap} (d : DefOk K mg "is_sequence" "is_sequence" "is_sequence" (top 7)) (m_tuple : mg "tuple" = none) (m_list : mg "list" = none) (m_isinstance : mg "isinstance" = none) (kI : IsiK K OWN) : FnP P w K mg base 1 "is_sequence" 1 F_is_sequence :=
  okP d sc_is_sequence rfl (fun _ _ _ _ _ _ us hl => match us, hl with | [_], _ => rfl) (sb_is_sequence m_tuple m_list m_isinstance kI) eq_is_sequence
/-! ### is_row -/
abbrev nm_is_row : List Str := ["value", "least", "most"]
abbrev ps_is_row : List Str := ["value", "least", "most"]
theorem sc_is_row : FnScope nm_is_row ps_is_row (defScope (top 8)) := ⟨rfl, rfl, rfl, by decide +kernel, rfl, by decide +kernel, by decide +kernel⟩
theorem nd_is_row : nm_is_row.Nodup := sc_is_row.nd
noncomputable def g_is_row : Env → Mu → RS :=
  zRet (xAnd (xCallP 1 F_is_sequence (xCons (xVar 0) (xNil))) (xChain oLe oLe (xVar 1) (xCB oLen (xCons (xVar 0) (xNil))) (xVar 2)))
theorem sb_is_row {P : Program} {w : World} {K : PySem.W.Frag} {mg : Str → Option Value} {base : Heap} (h_is_sequence : FnP P w K mg base 1 "is_sequence" 1 F_is_sequence) (m_len : mg "len" = none) : ∀ (f : Addr) cd A outer s H E, Cok (cxD P w K mg base nm_is_row "is_row" (defScope (top 8)) f cd A outer s H E) (fun c d _ H => E c d H) 1 → SB (cxD P w K mg base nm_is_row "is_row" (defScope (top 8)) f cd A outer s H E) (fun c d _ H => E c d H) (defBody (top 8)) g_is_row := fun f cd A outer s H E C =>
  (sb_one (ss_ret (se_and (se_callP h_is_sequence (C.hr.mono (by first | decide | omega)) C.tk rfl (sa_cons (se_var 0 rfl (.inl rfl)) sa_nil)) (se_one (se_chain os_le os_le (se_var 1 rfl (.inl rfl)) (se_cb cs_len rfl m_len (by decide +kernel) (sa_cons (se_var 0 rfl (.inl rfl)) sa_nil)) (se_var 2 rfl (.inl rfl)))))))
-- kind: P
def F_is_row : List D → R0 := fun ds => match ds with
  | [d, .int lo, .int hi] => if okD OWN d = true then (match seqD d with
    | some xs => if xs.length ≤ sizeLine then .ok (.bl (rowD d lo hi)) else .stuck
    | none => .ok (.bl false)) else .stuck
  | _ => .stuck
theorem eq_is_row : ∀ ds, ds.length = 3 → F_is_row ds ≠ .stuck → outP (g_is_row (startD 3 (ds.map .d)) []) = F_is_row ds := by
  intro ds hl h
  unfold F_is_row at h ⊢
  split at h <;> try exact absurd rfl h
  rename_i d lo hi
  split at h <;> try exact absurd rfl h
  rename_i hd
  cases d <;> simp_all [g_is_row, F_is_sequence, bTys]
  all_goals
    rename_i xs
    by_cases c : lo ≤ (xs.length : Int) <;> simp -implicitDefEqProofs [c]
theorem ok_is_row {P : Program} {w : World} {K : PySem.W.Frag} {mg : Str → Option Value} {base : Heap} (d : DefOk K mg "is_row" "is_row" "is_row" (top 8)) (h_is_sequence : FnP P w K mg base 1 "is_sequence" 1 F_is_sequence) (m_len : mg "len" = none) : FnP P w K mg base 2 "is_row" 3 F_is_row :=
  okP d sc_is_row rfl (fun _ _ _ _ _ _ us hl => match us, hl with | [_, _, _], _ => rfl) (sb_is_row h_is_sequence m_len) eq_is_row
/-! ### is_word_of -/
abbrev nm_is_word_of : List Str := ["value", "words"]
abbrev ps_is_word_of : List Str := ["value", "words"]
theorem sc_is_word_of : FnScope nm_is_word_of ps_is_word_of (defScope (top 9)) := ⟨rfl, rfl, rfl, by decide +kernel, rfl, by decide +kernel, by decide +kernel⟩
theorem nd_is_word_of : nm_is_word_of.Nodup := sc_is_word_of.nd
noncomputable def g_is_word_of : Env → Mu → RS :=
  zRet (xAnd (xCB (oIs OWN) (xCons (xVar 0) (xCons (xC (.ty "str")) (xNil)))) (xBin oIn (xVar 0) (xVar 1)))
theorem sb_is_word_of {P : Program} {w : World} {K : PySem.W.Frag} {mg : Str → Option Value} {base : Heap} (m_str : mg "str" = none) (m_isinstance : mg "isinstance" = none) (kI : IsiK K OWN) : ∀ (f : Addr) cd A outer s H E, Cok (cxD P w K mg base nm_is_word_of "is_word_of" (defScope (top 9)) f cd A outer s H E) (fun c d _ H => E c d H) 0 → SB (cxD P w K mg base nm_is_word_of "is_word_of" (defScope (top 9)) f cd A outer s H E) (fun c d _ H => E c d H) (defBody (top 9)) g_is_word_of := fun f cd A outer s H E C =>
  (sb_one (ss_ret (se_and (se_cb (cs_is kI) rfl m_isinstance (by decide +kernel) (sa_cons (se_var 0 rfl (.inl rfl)) (sa_cons (se_tyN rfl m_str (by decide +kernel)) sa_nil))) (se_one (se_cmp (os_in (un65 C.hr)) (se_var 0 rfl (.inl rfl)) (se_var 1 rfl (.inl rfl)) (by rfl))))))
-- kind: P
def F_is_word_of : List D → R0 := fun ds => match ds with
  | [d, .tup us] => (match strsOf us with
    | some ws => if okD OWN d = true ∧ ws.all PyData.strOk = true then (match d with
      | .str x => if PyData.strOk x = true then .ok (.bl (ws.contains x)) else .stuck
      | _ => .ok (.bl false)) else .stuck
    | none => .stuck)
  | _ => .stuck
theorem eq_is_word_of : ∀ ds, ds.length = 2 → F_is_word_of ds ≠ .stuck → outP (g_is_word_of (startD 2 (ds.map .d)) []) = F_is_word_of ds := by
  intro ds hl h
  unfold F_is_word_of at h ⊢
  split at h <;> try exact absurd rfl h
  rename_i d us
  split at h <;> try exact absurd rfl h
  rename_i ws e
  have e2 := strsOf_some e
  subst e2
  split at h <;> try exact absurd rfl h
  rename_i hd
  obtain ⟨hd, hw⟩ := hd
  cases d <;> simp_all [g_is_word_of, bTys]
theorem ok_is_word_of {P : Program} {w : World} {K : PySem.W.Frag} {mg : Str → Option Value} {base : Heap} (d : DefOk K mg "is_word_of" "is_word_of" "is_word_of" (top 9)) (m_str : mg "str" = none) (m_isinstance : mg "isinstance" = none) (kI : IsiK K OWN) : FnP P w K mg base 1 "is_word_of" 2 F_is_word_of :=
  okP d sc_is_word_of rfl (fun _ _ _ _ _ _ us hl => match us, hl with | [_, _], _ => rfl) (sb_is_word_of m_str m_isinstance kI) eq_is_word_of
/-! ### frozen -/
abbrev nm_frozen : List Str := ["value", "part"]
abbrev ps_frozen : List Str := ["value"]
theorem sc_frozen : FnScope nm_frozen ps_frozen (defScope (top 10)) := ⟨rfl, rfl, rfl, by decide +kernel, rfl, by decide +kernel, by decide +kernel⟩
theorem nd_frozen : nm_frozen.Nodup := sc_frozen.nd
noncomputable def g_frozen (F : List D → R0) : Env → Mu → RS :=
  zSeq (zIf (xTst (xCallP 1 F_is_sequence (xCons (xVar 0) (xNil)))) (zRet (xCB oTuple (xCons (xFrz (xLc (iSeq (xVar 0)) [1] (tN 1) (pYes) (xCallP 1 F (xCons (xVar 1) (xNil))))) (xNil)))) (zNil))
  (zRet (xVar 0))
theorem sb_frozen {P : Program} {w : World} {K : PySem.W.Frag} {mg : Str → Option Value} {base : Heap} {n : Nat} {F : List D → R0} (h_is_sequence : FnP P w K mg base 1 "is_sequence" 1 F_is_sequence) (h_self : FnP P w K mg base (2 + n) "frozen" 1 F) (m_tuple : mg "tuple" = none) : ∀ (f : Addr) cd A outer s H E, Cok (cxD P w K mg base nm_frozen "frozen" (defScope (top 10)) f cd A outer s H E) (fun c d _ H => E c d H) (2 + n) → SB (cxD P w K mg base nm_frozen "frozen" (defScope (top 10)) f cd A outer s H E) (fun c d _ H => E c d H) (defBody (top 10)) (g_frozen F) := fun f cd A outer s H E C =>
  (sb_cons (ss_if (st_val (se_callP h_is_sequence (C.hr.mono (by first | decide | omega)) C.tk rfl (sa_cons (se_var 0 rfl (.inl rfl)) sa_nil))) (sb_one (ss_ret (se_ct cs_tuple rfl m_tuple (by decide +kernel) (sa_cons (sf_frz (sf_lc (i := 1) (own := [(("part" : Str), 1)]) C.calm nd_frozen (si_seq (se_var 0 rfl (.inl rfl))) (blkOk_by (own := [(("part" : Str), 1)]) (N := nm_frozen) (sc := defScope (top 10)) (by decide +kernel)) rfl (fun _ _ _ _ _ => pg_name (i := 1) nd_frozen rfl (.inl rfl)) (fun _ _ _ _ _ => sts_nil) (fun _ _ _ _ _ => (se_callP h_self C.hr takesN0 rfl (sa_cons (se_var 1 rfl (.inl rfl)) sa_nil))))) sa_nil)))) sb_nil)
  (sb_one (ss_ret (se_var 0 rfl (.inl rfl)))))
-- kind: P
-- rec: 1
-- depth: 5
def frzF (n : Nat) : List D → R0 := fun ds => match ds with
  | [d] => if okAll OWN (n + 1) d = true then .ok (frzD d) else .stuck
  | _ => .stuck
def F_frozen : Nat → List D → R0
  | 0 => fun _ => .stuck
  | n + 1 => frzF n
theorem okAll_ok {n : Nat} {d : D} (h : okAll OWN n d = true) : okD OWN d = true := by
  cases n <;> cases d <;> simp_all [okAll]
theorem okAlls_at {n : Nat} : ∀ {xs : List D}, okAlls OWN n xs = true → ∀ x ∈ xs, okAll OWN n x = true
  | [], _, x, hx => by cases hx
  | y :: ys, h, x, hx => by
    simp -implicitDefEqProofs only [okAlls, Bool.and_eq_true] at h
    rcases List.mem_cons.mp hx with rfl | hx
    · exact h.1
    · exact okAlls_at h.2 x hx
theorem F_frozen_at {n : Nat} {d : D} (h : okAll OWN n d = true) : F_frozen n [d] = .ok (frzD d) := by
  cases n with
  | zero => cases d <;> simp_all [okAll]
  | succ n =>
    show frzF n [d] = _
    unfold frzF
    simp -implicitDefEqProofs [h]
theorem eq_frozen (n : Nat) : ∀ ds, ds.length = 1 → F_frozen (n + 1) ds ≠ .stuck → outP (g_frozen (F_frozen n) (startD 2 (ds.map .d)) []) = F_frozen (n + 1) ds := by
  intro ds hl h
  change frzF n ds ≠ _ at h
  show _ = frzF n ds
  unfold frzF at h ⊢
  split at h <;> try exact absurd rfl h
  rename_i d
  split at h <;> try exact absurd rfl h
  rename_i hd
  have hk := okAll_ok hd
  have key : ∀ d xs, okAlls OWN n xs = true → xs.length ≤ sizeLine → ∀ m, dLc (tN 1) pYes (xCallP 1 (F_frozen n) (xCons (xVar 1) xNil)) (wipeD [some (.d d), none] [1]) (xs.map .d) m [] = .ok (xs.map frzD) m := by
    intro d xs hx hz m
    have := dLc_mapD (tt := tN 1) (f := xCallP 1 (F_frozen n) (xCons (xVar 1) xNil)) (et := wipeD [some (.d d), none] [1]) frzD m xs [] (fun x hm => by
      simp -implicitDefEqProofs [F_frozen_at (okAlls_at hx x hm)]) (by simpa using hz)
    simpa using this
  cases d with
  | tup xs =>
    simp -implicitDefEqProofs only [okAll, Bool.and_eq_true] at hd
    have k := key (.tup xs) xs hd.1 (by simpa using hd.2)
    simp -implicitDefEqProofs at k
    simp_all [g_frozen, F_is_sequence, frzD, frzDs_map, okAll]
  | lst xs =>
    simp -implicitDefEqProofs only [okAll, Bool.and_eq_true] at hd
    have k := key (.lst xs) xs hd.1 (by simpa using hd.2)
    simp -implicitDefEqProofs at k
    simp_all [g_frozen, F_is_sequence, frzD, frzDs_map, okAll]
  | _ => simp_all [g_frozen, F_is_sequence, frzD, okAll]
theorem okr_frozen {P : Program} {w : World} {K : PySem.W.Frag} {mg : Str → Option Value} {base : Heap} (d : DefOk K mg "frozen" "frozen" "frozen" (top 10)) (h_is_sequence : FnP P w K mg base 1 "is_sequence" 1 F_is_sequence) (m_tuple : mg "tuple" = none) : ∀ n, FnP P w K mg base (2 + n) "frozen" 1 (F_frozen n)
  | 0 => okP0 d sc_frozen rfl (fun _ _ _ _ _ _ us hl => match us, hl with | [_], _ => rfl)
  | n + 1 => by
    have ih := okr_frozen (P := P) (w := w) (base := base) d h_is_sequence m_tuple n
    exact okP (k := 2 + n) d sc_frozen rfl (fun _ _ _ _ _ _ us hl => match us, hl with | [_], _ => rfl) (sb_frozen h_is_sequence ih m_tuple) (eq_frozen n)
/-! ### Printer.__init__ -/
abbrev nm_Printer_init : List Str := ["self", "counts", "remembers", "tells", "at", "value"]
abbrev ps_Printer_init : List Str := ["self", "counts", "remembers", "tells"]
theorem sc_Printer_init : FnScope nm_Printer_init ps_Printer_init (defScope (inClass (top 15) 0)) := ⟨rfl, rfl, rfl, by decide +kernel, rfl, by decide +kernel, by decide +kernel⟩
theorem nd_Printer_init : nm_Printer_init.Nodup := sc_Printer_init.nd
noncomputable def lp1_Printer_init : Env → Mu → RS :=
  zIf (xNotT (xTst (xCB (oIs OWN) (xCons (xVar 5) (xCons (xC (.ty "bool")) (xNil)))))) (zRaise "BadValue" (xBin oAdd (xVar 4) (xC (.int 1)))) (zNil)
noncomputable def g_Printer_init : Env → Mu → RS :=
  zSeq (zFor (iEn (xTup (xCons (xVar 1) (xCons (xVar 2) (xCons (xVar 3) (xNil)))))) (gT [gN 4, gN 5]) lp1_Printer_init)
  (zSeq (zFld "Printer" "_counts" (xVar 0) (xVar 1))
  (zSeq (zFld "Printer" "_remembers" (xVar 0) (xVar 2))
  (zFld "Printer" "_tells" (xVar 0) (xVar 3))))
theorem sb_Printer_init {P : Program} {w : World} {K : PySem.W.Frag} {mg : Str → Option Value} {base : Heap} (m_enumerate : mg "enumerate" = none) (m_bool : mg "bool" = none) (m_isinstance : mg "isinstance" = none) (kI : IsiK K OWN) (e_BadValue : ErrK K mg "BadValue") (ff_Printer : FldK K "Printer" ["_counts", "_remembers", "_tells"]) : ∀ (f : Addr) cd A outer s H E, Cok (cxD P w K mg base nm_Printer_init "Printer.__init__" (defScope (inClass (top 15) 0)) f cd A outer s H E) (fun c d _ H => E c d H) 0 → SB (cxD P w K mg base nm_Printer_init "Printer.__init__" (defScope (inClass (top 15) 0)) f cd A outer s H E) (fun c d _ H => E c d H) (defBody (inClass (top 15) 0)) g_Printer_init := fun f cd A outer s H E C =>
  (sb_cons (ss_for C.po C.calm (si_en rfl m_enumerate (se_tup (sa_cons (se_var 1 rfl (.inl rfl)) (sa_cons (se_var 2 rfl (.inl rfl)) (sa_cons (se_var 3 rfl (.inl rfl)) sa_nil))))) (sg_tup C.calm rfl (sgs_cons (sg_name (i := 4) nd_Printer_init rfl (.inl rfl)) (sgs_cons (sg_name (i := 5) nd_Printer_init rfl (.inl rfl)) sgs_nil))) (sb_one (ss_if (st_not (st_val (se_cb (cs_is kI) rfl m_isinstance (by decide +kernel) (sa_cons (se_var 5 rfl (.inl rfl)) (sa_cons (se_tyN rfl m_bool (by decide +kernel)) sa_nil))))) (sb_one (ss_raise C.calm e_BadValue C.hr C.tk (se_op os_add (se_var 4 rfl (.inl rfl)) se_int) rfl)) sb_nil)))
  (sb_cons (ss_fld ff_Printer (by decide) (se_var 0 rfl (.inl rfl)) (se_var 1 rfl (.inl rfl)))
  (sb_cons (ss_fld ff_Printer (by decide) (se_var 0 rfl (.inl rfl)) (se_var 2 rfl (.inl rfl)))
  (sb_one (ss_fld ff_Printer (by decide) (se_var 0 rfl (.inl rfl)) (se_var 3 rfl (.inl rfl)))))))
-- kind: N
def F_Printer_init : List D → R0 := fun ds => match ds with
  | [a, b, c] => if (okD OWN a && (okD OWN b && okD OWN c)) = true then (match a, b, c with
    | .bl x, .bl y, .bl z => .ok (prD ⟨x, y, z⟩)
    | .bl _, .bl _, _ => .exc "BadValue" (.int 3)
    | .bl _, _, _ => .exc "BadValue" (.int 2)
    | _, _, _ => .exc "BadValue" (.int 1)) else .stuck
  | _ => .stuck
theorem eq_Printer_init : ∀ ds, ds.length = 3 → F_Printer_init ds ≠ .stuck → outI (g_Printer_init (startD 6 (.l 0 :: ds.map .d)) [some (.obj "Printer" [])]) = F_Printer_init ds := by
  intro ds hl h
  unfold F_Printer_init at h ⊢
  split at h <;> try exact absurd rfl h
  rename_i a b c
  split at h <;> try exact absurd rfl h
  rename_i hd
  cases a <;> simp_all [g_Printer_init, lp1_Printer_init, enD, bTys, sizeLine_eq] <;> cases b <;> simp_all [bTys] <;> cases c <;> simp_all [bTys, prD]
theorem ok_Printer_init {P : Program} {w : World} {K : PySem.W.Frag} {mg : Str → Option Value} {base : Heap} (gc : mg "Printer" = some (.ref (cA K "Printer"))) (M : Mk K (cA K "Printer") (He.ma K (cA K "Printer") "__init__")) {fd : FuncData} (F0 : FunD K "__init__" "Printer.__init__" (defArgs (inClass (top 15) 0)) (defBody (inClass (top 15) 0)) (defScope (inClass (top 15) 0)) [] [] (He.ma K (cA K "Printer") "__init__") fd) (m_enumerate : mg "enumerate" = none) (m_bool : mg "bool" = none) (m_isinstance : mg "isinstance" = none) (kI : IsiK K OWN) (e_BadValue : ErrK K mg "BadValue") (ff_Printer : FldK K "Printer" ["_counts", "_remembers", "_tells"]) : NewOk P w K mg base 1 "Printer" 3 ["counts", "remembers", "tells"] F_Printer_init :=
  okN gc M F0 sc_Printer_init rfl rfl (fun _ _ _ _ _ _ us hl => match us, hl with | [_, _, _, _], _ => rfl) (fun _ _ _ _ _ _ us ws h1 h2 => match us, h1, ws, h2 with | [_], _, [_, _, _], _ => rfl) (sb_Printer_init m_enumerate m_bool m_isinstance kI e_BadValue ff_Printer _) eq_Printer_init
/-! ### Printer.__eq__ -/
abbrev nm_Printer_eq : List Str := ["self", "other"]
abbrev ps_Printer_eq : List Str := ["self", "other"]
theorem sc_Printer_eq : FnScope nm_Printer_eq ps_Printer_eq (defScope (inClass (top 15) 4)) := ⟨rfl, rfl, rfl, by decide +kernel, rfl, by decide +kernel, by decide +kernel⟩
theorem nd_Printer_eq : nm_Printer_eq.Nodup := sc_Printer_eq.nd
noncomputable def g_Printer_eq : Env → Mu → RS :=
  zSeq (zIf (xNotT (xTst (xCB (oIs OWN) (xCons (xVar 1) (xCons (xC (.cls "Printer")) (xNil)))))) (zRet (xC (.bl false))) (zNil))
  (zRet (xAnd (xBin oEq (xFld "Printer" "_counts" (xVar 0)) (xFld "Printer" "_counts" (xVar 1))) (xAnd (xBin oEq (xFld "Printer" "_remembers" (xVar 0)) (xFld "Printer" "_remembers" (xVar 1))) (xBin oEq (xFld "Printer" "_tells" (xVar 0)) (xFld "Printer" "_tells" (xVar 1))))))
theorem sb_Printer_eq {P : Program} {w : World} {K : PySem.W.Frag} {mg : Str → Option Value} {base : Heap} (c_Printer : mg "Printer" = some (.ref (cA K "Printer"))) (m_isinstance : mg "isinstance" = none) (kI : IsiK K OWN) (ff_Printer : FldK K "Printer" ["_counts", "_remembers", "_tells"]) (pp_counts : PropK P w K mg base 1 "Printer" "counts" "_counts") (pp_remembers : PropK P w K mg base 1 "Printer" "remembers" "_remembers") (pp_tells : PropK P w K mg base 1 "Printer" "tells" "_tells") : ∀ (f : Addr) cd A outer s H E, Cok (cxD P w K mg base nm_Printer_eq "Printer.__eq__" (defScope (inClass (top 15) 4)) f cd A outer s H E) (fun c d _ H => E c d H) 2 → SB (cxD P w K mg base nm_Printer_eq "Printer.__eq__" (defScope (inClass (top 15) 4)) f cd A outer s H E) (fun c d _ H => E c d H) (defBody (inClass (top 15) 4)) g_Printer_eq := fun f cd A outer s H E C =>
  (sb_cons (ss_if (st_not (st_val (se_cb (cs_is kI) rfl m_isinstance (by decide +kernel) (sa_cons (se_var 1 rfl (.inl rfl)) (sa_cons (se_clsN rfl c_Printer) sa_nil))))) (sb_one (ss_ret se_bl)) sb_nil)
  (sb_one (ss_ret (se_and (se_cmp (os_eq C.hr.units) (se_fld ff_Printer (by decide) (se_var 0 rfl (.inl rfl))) (se_prop pp_counts (C.hr.mono (by first | decide | omega)) (se_var 1 rfl (.inl rfl))) (nomark _)) (se_and (se_cmp (os_eq C.hr.units) (se_fld ff_Printer (by decide) (se_var 0 rfl (.inl rfl))) (se_prop pp_remembers (C.hr.mono (by first | decide | omega)) (se_var 1 rfl (.inl rfl))) (nomark _)) (se_one (se_cmp (os_eq C.hr.units) (se_fld ff_Printer (by decide) (se_var 0 rfl (.inl rfl))) (se_prop pp_tells (C.hr.mono (by first | decide | omega)) (se_var 1 rfl (.inl rfl))) (nomark _))))))))
-- kind: M
noncomputable def F_Printer_eq : List D → R0 := fun ds => match ds with
  | [x, y] => (match dec prD x with
    | some p => (match dec prD y with
      | some q => .ok (.bl (decide (p = q)))
      | none => if okD OWN y = true ∧ isObj "Printer" y = false then .ok (.bl false) else .stuck)
    | none => .stuck)
  | _ => .stuck
theorem eq_Printer_eq : ∀ ds, ds.length = 2 → F_Printer_eq ds ≠ .stuck → outP (g_Printer_eq (startD 2 (ds.map .d)) []) = F_Printer_eq ds := by
  intro ds hl h
  unfold F_Printer_eq at h ⊢
  split at h <;> try exact absurd rfl h
  rename_i x y
  split at h <;> try exact absurd rfl h
  rename_i p e
  have e2 := dec_some e
  subst e2
  split at h
  · rename_i q e3
    have e4 := dec_some e3
    subst e4
    obtain ⟨a, b, c⟩ := p
    obtain ⟨a', b', c'⟩ := q
    simp -implicitDefEqProofs [g_Printer_eq, bTys]
    cases a <;> cases a' <;> cases b <;> cases b' <;> cases c <;> cases c' <;> simp -implicitDefEqProofs
  · split at h <;> try exact absurd rfl h
    rename_i e3 hd
    rw [if_pos hd]
    cases y with
    | obj c fs =>
      have hc : c = "Plan" := by
        obtain ⟨h1, h2⟩ := hd
        simp -implicitDefEqProofs at h1 h2
        simpa [h2] using h1
      subst hc
      simp -implicitDefEqProofs [g_Printer_eq, bTys]
    | _ => simp_all [g_Printer_eq, bTys]
theorem ok_Printer_eq {P : Program} {w : World} {K : PySem.W.Frag} {mg : Str → Option Value} {base : Heap} (hm : Meth K (cA K "Printer") "__eq__" (He.ma K (cA K "Printer") "__eq__")) {fd : FuncData} (F0 : FunD K "__eq__" "Printer.__eq__" (defArgs (inClass (top 15) 4)) (defBody (inClass (top 15) 4)) (defScope (inClass (top 15) 4)) [] [] (He.ma K (cA K "Printer") "__eq__") fd) (c_Printer : mg "Printer" = some (.ref (cA K "Printer"))) (m_isinstance : mg "isinstance" = none) (kI : IsiK K OWN) (ff_Printer : FldK K "Printer" ["_counts", "_remembers", "_tells"]) (pp_counts : PropK P w K mg base 1 "Printer" "counts" "_counts") (pp_remembers : PropK P w K mg base 1 "Printer" "remembers" "_remembers") (pp_tells : PropK P w K mg base 1 "Printer" "tells" "_tells") : MtP P w K mg base 3 "Printer" "__eq__" 2 F_Printer_eq :=
  okM hm F0 sc_Printer_eq rfl (fun _ _ _ _ _ _ us hl => match us, hl with | [_, _], _ => rfl) (sb_Printer_eq c_Printer m_isinstance kI ff_Printer pp_counts pp_remembers pp_tells _) eq_Printer_eq
@[simp] def D_ALONE : D := (.tup [(.str "recall"), (.str "note"), (.str "count"), (.str "add"), (.str "send"), (.str "wait"), (.str "end")])
@[simp] def D_ASKED : D := (.tup [(.str "done"), (.str "ok")])
/-! ### is_line -/
abbrev nm_is_line : List Str := ["value", "many"]
abbrev ps_is_line : List Str := ["value", "many"]
theorem sc_is_line : FnScope nm_is_line ps_is_line (defScope (top 16)) := ⟨rfl, rfl, rfl, by decide +kernel, rfl, by decide +kernel, by decide +kernel⟩
theorem nd_is_line : nm_is_line.Nodup := sc_is_line.nd
noncomputable def g_is_line : Env → Mu → RS :=
  zSeq (zIf (xOrT (xNotT (xTst (xCallP 3 F_is_row (xCons (xVar 0) (xCons (xC (.int 1)) (xCons (xC (.int 3)) (xNil))))))) (xNotT (xTst (xCB (oIs OWN) (xCons (xBin oIx (xVar 0) (xC (.int 0))) (xCons (xC (.ty "str")) (xNil))))))) (zRet (xC (.bl false))) (zNil))
  (zSeq (zIf (xTst (xBin oEq (xCB oLen (xCons (xVar 0) (xNil))) (xC (.int 1)))) (zRet (xBin oIn (xBin oIx (xVar 0) (xC (.int 0))) (xC D_ALONE))) (zNil))
  (zSeq (zIf (xNotT (xTst (xCallP 3 F_is_within (xCons (xBin oIx (xVar 0) (xNeg (xC (.int 1)))) (xCons (xC (.int 0)) (xCons (xBin oSub (xVar 1) (xC (.int 1))) (xNil))))))) (zRet (xC (.bl false))) (zNil))
  (zSeq (zIf (xTst (xBin oEq (xCB oLen (xCons (xVar 0) (xNil))) (xC (.int 2)))) (zRet (xBin oEq (xBin oIx (xVar 0) (xC (.int 0))) (xC (.str "go")))) (zNil))
  (zRet (xAnd (xBin oEq (xBin oIx (xVar 0) (xC (.int 0))) (xC (.str "if"))) (xCallP 2 F_is_word_of (xCons (xBin oIx (xVar 0) (xC (.int 1))) (xCons (xC D_ASKED) (xNil)))))))))
theorem sb_is_line {P : Program} {w : World} {K : PySem.W.Frag} {mg : Str → Option Value} {base : Heap} (h_is_row : FnP P w K mg base 2 "is_row" 3 F_is_row) (m_str : mg "str" = none) (m_isinstance : mg "isinstance" = none) (kI : IsiK K OWN) (m_len : mg "len" = none) (g_ALONE : GC K mg "ALONE" D_ALONE) (h_is_within : FnP P w K mg base 2 "is_within" 3 F_is_within) (h_is_word_of : FnP P w K mg base 1 "is_word_of" 2 F_is_word_of) (g_ASKED : GC K mg "ASKED" D_ASKED) : ∀ (f : Addr) cd A outer s H E, Cok (cxD P w K mg base nm_is_line "is_line" (defScope (top 16)) f cd A outer s H E) (fun c d _ H => E c d H) 2 → SB (cxD P w K mg base nm_is_line "is_line" (defScope (top 16)) f cd A outer s H E) (fun c d _ H => E c d H) (defBody (top 16)) g_is_line := fun f cd A outer s H E C =>
  (sb_cons (ss_if (sw_st (sw_or (st_not (st_val (se_callP h_is_row (C.hr.mono (by first | decide | omega)) C.tk rfl (sa_cons (se_var 0 rfl (.inl rfl)) (sa_cons se_int (sa_cons se_int sa_nil)))))) (sw_or1 (st_not (st_val (se_cb (cs_is kI) rfl m_isinstance (by decide +kernel) (sa_cons (se_ix (se_var 0 rfl (.inl rfl)) se_int (fun _ _ => rfl)) (sa_cons (se_tyN rfl m_str (by decide +kernel)) sa_nil)))))))) (sb_one (ss_ret se_bl)) sb_nil)
  (sb_cons (ss_if (st_cmp (os_eq C.hr.units) (se_cb cs_len rfl m_len (by decide +kernel) (sa_cons (se_var 0 rfl (.inl rfl)) sa_nil)) se_int (nomark _)) (sb_one (ss_ret (se_cmp (os_in (un65 C.hr)) (se_ix (se_var 0 rfl (.inl rfl)) se_int (fun _ _ => rfl)) (se_gc g_ALONE rfl) (by rfl)))) sb_nil)
  (sb_cons (ss_if (st_not (st_val (se_callP h_is_within (C.hr.mono (by first | decide | omega)) C.tk rfl (sa_cons (se_ix (se_var 0 rfl (.inl rfl)) (se_neg se_int) (fun _ _ => rfl)) (sa_cons se_int (sa_cons (se_op os_sub (se_var 1 rfl (.inl rfl)) se_int) sa_nil)))))) (sb_one (ss_ret se_bl)) sb_nil)
  (sb_cons (ss_if (st_cmp (os_eq C.hr.units) (se_cb cs_len rfl m_len (by decide +kernel) (sa_cons (se_var 0 rfl (.inl rfl)) sa_nil)) se_int (nomark _)) (sb_one (ss_ret (se_cmp (os_eq C.hr.units) (se_ix (se_var 0 rfl (.inl rfl)) se_int (fun _ _ => rfl)) se_str (nomark _)))) sb_nil)
  (sb_one (ss_ret (se_and (se_cmp (os_eq C.hr.units) (se_ix (se_var 0 rfl (.inl rfl)) se_int (fun _ _ => rfl)) se_str (nomark _)) (se_one (se_callP h_is_word_of (C.hr.mono (by first | decide | omega)) C.tk rfl (sa_cons (se_ix (se_var 0 rfl (.inl rfl)) se_int (fun _ _ => rfl)) (sa_cons (se_gc g_ASKED rfl) sa_nil)))))))))))
-- kind: P
def F_is_line : List D → R0 := fun ds => match ds with
  | [d, .int many] => if okAll OWN 4 d = true then .ok (.bl (lineOk many d)) else .stuck
  | _ => .stuck
theorem okAlls_two {n : Nat} {a b : D} (h : okAlls OWN n [a, b] = true) : okAll OWN n a = true ∧ okAll OWN n b = true := by simpa [okAlls] using h
theorem okAlls_three {n : Nat} {a b c : D} (h : okAlls OWN n [a, b, c] = true) : okAll OWN n a = true ∧ okAll OWN n b = true ∧ okAll OWN n c = true := by simpa [okAlls] using h
theorem strOk_all {n : Nat} {x : Str} (h : okAll OWN n (.str x) = true) : PyData.strOk x = true := by
  cases n <;> simp_all [okAll]
theorem eq_is_line : ∀ ds, ds.length = 2 → F_is_line ds ≠ .stuck → outP (g_is_line (startD 2 (ds.map .d)) []) = F_is_line ds := by
  intro ds hl h
  unfold F_is_line at h ⊢
  split at h <;> try exact absurd rfl h
  rename_i d many
  split at h <;> try exact absurd rfl h
  rename_i hd
  have hk := okAll_ok hd
  rw [if_pos hd]
  cases d
  case tup | lst =>
    rename_i xs
    simp -implicitDefEqProofs only [okAll, Bool.and_eq_true, decide_eq_true_eq] at hd
    obtain ⟨h1, h2⟩ := hd
    match xs, h1, h2 with
    | [], h1, h2 => simp -implicitDefEqProofs [g_is_line, F_is_row, lineOk]
    | [a], h1, h2 =>
      have ha := okAll_ok (okAlls_at h1 a (by simp -implicitDefEqProofs))
      cases a <;> simp_all [g_is_line, F_is_row, lineOk, okAlls, okAll]
    | [a, b], h1, h2 =>
      obtain ⟨ha, hb⟩ := okAlls_two h1
      have hb2 := okAll_ok hb
      have ha2 := okAll_ok ha
      cases a <;> simp_all [g_is_line, F_is_row, F_is_within, lineOk, okAlls, okAll]
      cases b <;> simp -implicitDefEqProofs
      rename_i i
      by_cases c1 : 0 ≤ i
      · by_cases c2 : i ≤ many - 1
        · have c3 : ¬ (many - 1 < i) := by omega
          simp -implicitDefEqProofs [c1, c2, c3, h1]
        · have c3 : many - 1 < i := by omega
          simp -implicitDefEqProofs [c1, c2, c3]
      · simp -implicitDefEqProofs [c1]
    | [a, b, c], h1, h2 =>
      obtain ⟨ha, hb, hc⟩ := okAlls_three h1
      have hb2 := okAll_ok hb
      have ha2 := okAll_ok ha
      have hc2 := okAll_ok hc
      cases a <;> simp_all [g_is_line, F_is_row, F_is_within, F_is_word_of, lineOk, okAlls, okAll]
      cases c <;> simp -implicitDefEqProofs
      rename_i x i
      by_cases c1 : 0 ≤ i
      · by_cases c2 : i ≤ many - 1
        · have c3 : ¬ (many - 1 < i) := by omega
          by_cases c4 : x = "if"
          · subst c4
            simp -implicitDefEqProofs [c1, c2, c3]
            cases b <;> simp_all [okAll, F_is_word_of]
          · simp -implicitDefEqProofs [c1, c2, c3, c4, h1]
        · have c3 : many - 1 < i := by omega
          simp -implicitDefEqProofs [c1, c2, c3]
      · simp -implicitDefEqProofs [c1]
    | a :: b :: c :: e :: r, h1, h2 =>
      have : ¬ ((r.length : Int) + 1 + 1 + 1 + 1 ≤ 3) := by omega
      have h3 : r.length ≤ 16777212 := by simp -implicitDefEqProofs at h2; omega
      simp -implicitDefEqProofs [g_is_line, F_is_row, lineOk, this, h3]
  all_goals simp_all [g_is_line, F_is_row, lineOk]
theorem ok_is_line {P : Program} {w : World} {K : PySem.W.Frag} {mg : Str → Option Value} {base : Heap} (d : DefOk K mg "is_line" "is_line" "is_line" (top 16)) (h_is_row : FnP P w K mg base 2 "is_row" 3 F_is_row) (m_str : mg "str" = none) (m_isinstance : mg "isinstance" = none) (kI : IsiK K OWN) (m_len : mg "len" = none) (g_ALONE : GC K mg "ALONE" D_ALONE) (h_is_within : FnP P w K mg base 2 "is_within" 3 F_is_within) (h_is_word_of : FnP P w K mg base 1 "is_word_of" 2 F_is_word_of) (g_ASKED : GC K mg "ASKED" D_ASKED) : FnP P w K mg base 3 "is_line" 2 F_is_line :=
  okP d sc_is_line rfl (fun _ _ _ _ _ _ us hl => match us, hl with | [_, _], _ => rfl) (sb_is_line h_is_row m_str m_isinstance kI m_len g_ALONE h_is_within h_is_word_of g_ASKED) eq_is_line
@[simp] def D_MOST_LINES : D := (.int 16)
/-! ### Plan.__init__ -/
abbrev nm_Plan_init : List Str := ["self", "lines", "at", "line"]
abbrev ps_Plan_init : List Str := ["self", "lines"]
theorem sc_Plan_init : FnScope nm_Plan_init ps_Plan_init (defScope (inClass (top 17) 0)) := ⟨rfl, rfl, rfl, by decide +kernel, rfl, by decide +kernel, by decide +kernel⟩
theorem nd_Plan_init : nm_Plan_init.Nodup := sc_Plan_init.nd
noncomputable def lp1_Plan_init : Env → Mu → RS :=
  zIf (xNotT (xTst (xCallP 2 F_is_line (xCons (xVar 3) (xCons (xCB oLen (xCons (xVar 1) (xNil))) (xNil)))))) (zRaise "BadLine" (xVar 2)) (zNil)
noncomputable def g_Plan_init : Env → Mu → RS :=
  zSeq (zIf (xNotT (xTst (xCallP 3 F_is_row (xCons (xVar 1) (xCons (xC (.int 1)) (xCons (xC D_MOST_LINES) (xNil))))))) (zRaise "BadValue" (xC (.int 1))) (zNil))
  (zSeq (zFor (iEn (xVar 1)) (gT [gN 2, gN 3]) lp1_Plan_init)
  (zSeq (zIf (xTst (xBin oNotIn (xBin oIx (xBin oIx (xVar 1) (xNeg (xC (.int 1)))) (xC (.int 0))) (xTup (xCons (xC (.str "end")) (xCons (xC (.str "go")) (xNil)))))) (zRaise "BadLine" (xBin oSub (xCB oLen (xCons (xVar 1) (xNil))) (xC (.int 1)))) (zNil))
  (zFld "Plan" "_lines" (xVar 0) (xCallP 1 (F_frozen 5) (xCons (xVar 1) (xNil))))))
theorem sb_Plan_init {P : Program} {w : World} {K : PySem.W.Frag} {mg : Str → Option Value} {base : Heap} (h_is_row : FnP P w K mg base 2 "is_row" 3 F_is_row) (g_MOST_LINES : GC K mg "MOST_LINES" D_MOST_LINES) (e_BadValue : ErrK K mg "BadValue") (m_enumerate : mg "enumerate" = none) (h_is_line : FnP P w K mg base 3 "is_line" 2 F_is_line) (m_len : mg "len" = none) (e_BadLine : ErrK K mg "BadLine") (h_frozen : FnP P w K mg base 7 "frozen" 1 (F_frozen 5)) (ff_Plan : FldK K "Plan" ["_lines"]) : ∀ (f : Addr) cd A outer s H E, Cok (cxD P w K mg base nm_Plan_init "Plan.__init__" (defScope (inClass (top 17) 0)) f cd A outer s H E) (fun c d _ H => E c d H) 7 → SB (cxD P w K mg base nm_Plan_init "Plan.__init__" (defScope (inClass (top 17) 0)) f cd A outer s H E) (fun c d _ H => E c d H) (defBody (inClass (top 17) 0)) g_Plan_init := fun f cd A outer s H E C =>
  (sb_cons (ss_if (st_not (st_val (se_callP h_is_row (C.hr.mono (by first | decide | omega)) C.tk rfl (sa_cons (se_var 1 rfl (.inl rfl)) (sa_cons se_int (sa_cons (se_gc g_MOST_LINES rfl) sa_nil)))))) (sb_one (ss_raise C.calm e_BadValue C.hr C.tk se_int rfl)) sb_nil)
  (sb_cons (ss_for C.po C.calm (si_en rfl m_enumerate (se_var 1 rfl (.inl rfl))) (sg_tup C.calm rfl (sgs_cons (sg_name (i := 2) nd_Plan_init rfl (.inl rfl)) (sgs_cons (sg_name (i := 3) nd_Plan_init rfl (.inl rfl)) sgs_nil))) (sb_one (ss_if (st_not (st_val (se_callP h_is_line (C.hr.mono (by first | decide | omega)) C.tk rfl (sa_cons (se_var 3 rfl (.inl rfl)) (sa_cons (se_cb cs_len rfl m_len (by decide +kernel) (sa_cons (se_var 1 rfl (.inl rfl)) sa_nil)) sa_nil))))) (sb_one (ss_raise C.calm e_BadLine C.hr C.tk (se_var 2 rfl (.inl rfl)) rfl)) sb_nil)))
  (sb_cons (ss_if (st_cmp (os_notIn (un65 C.hr)) (se_ix (se_ix (se_var 1 rfl (.inl rfl)) (se_neg se_int) (fun _ _ => rfl)) se_int (fun _ _ => rfl)) (se_tup (sa_cons se_str (sa_cons se_str sa_nil))) (by rfl)) (sb_one (ss_raise C.calm e_BadLine C.hr C.tk (se_op os_sub (se_cb cs_len rfl m_len (by decide +kernel) (sa_cons (se_var 1 rfl (.inl rfl)) sa_nil)) se_int) rfl)) sb_nil)
  (sb_one (ss_fld ff_Plan (by decide) (se_var 0 rfl (.inl rfl)) (se_callP h_frozen (C.hr.mono (by first | decide | omega)) C.tk rfl (sa_cons (se_var 1 rfl (.inl rfl)) sa_nil)))))))
-- kind: N
def F_Plan_init : List D → R0 := fun ds => match ds with
  | [d] => if okAll OWN 5 d = true then (match seqD d with
    | some xs => if rowD d 1 16 = true then (match xs.findIdx? (fun x => !lineOk xs.length x) with
        | some j => .exc "BadLine" (.int (j : Nat))
        | none => if wordD ["end", "go"] (headD (xs.getLastD .non)) = true then .ok (.obj "Plan" [("_lines", frzD d)]) else .exc "BadLine" (.int ((xs.length : Int) - 1)))
      else .exc "BadValue" (.int 1)
    | none => .exc "BadValue" (.int 1)) else .stuck
  | _ => .stuck
def planP (d : D) (xs : List D) (n : Int) (m : Mu) (r : RS) : Prop := match xs.findIdx? (fun x => !lineOk n x) with
  | some j => ∃ e, r = .exc "BadLine" (.int (j : Nat)) e m
  | none => ∃ a b, r = .nx [some (.l 0), some (.d d), a, b] m
theorem plan_loop (d : D) (xs : List D) (hx : okAlls OWN 4 xs = true) (hz : xs.length ≤ 16777216) (hd : seqD d = some xs) (m : Mu) (a b : Option Va) :
    planP d xs xs.length m (dFor (gT [gN 2, gN 3]) lp1_Plan_init (enD xs) [some (.l 0), some (.d d), a, b] m) := by
  refine dFor_rule (t := gT [gN 2, gN 3]) (b := lp1_Plan_init) (planP d xs xs.length m) (xs := enD xs) (fun i e m' => m' = m ∧ (∃ a b, e = [some (.l 0), some (.d d), a, b]) ∧ ∀ j (h : j < xs.length), j < i → lineOk xs.length xs[j] = true) ⟨rfl, ⟨a, b, rfl⟩, fun j _ h => by omega⟩ ?_ ?_
  · rintro i x e m' hxi ⟨rfl, ⟨a, b, rfl⟩, hj⟩
    have hi : i < xs.length := by
      have := (List.getElem?_eq_some_iff.mp hxi).1
      rwa [enD_len] at this
    rw [enD_get hi] at hxi
    cases hxi
    have ho := okAlls_at hx xs[i] (List.getElem_mem hi)
    by_cases hl : lineOk xs.length xs[i] = true
    · have hi2 : ∀ j (h : j < xs.length), j < i + 1 → lineOk xs.length xs[j] = true := fun j h hji => by
        by_cases e : j = i
        · subst e; exact hl
        · exact hj j h (by omega)
      cases d <;> simp -implicitDefEqProofs at hd <;> subst hd <;> simp -implicitDefEqProofs [lp1_Plan_init, F_is_line, ho, hl, hz] <;> exact hi2
    · have hl2 : lineOk xs.length xs[i] = false := by simpa using hl
      have hf : xs.findIdx? (fun x => !lineOk xs.length x) = some i := by
        rw [List.findIdx?_eq_some_iff_getElem]
        exact ⟨hi, by simp -implicitDefEqProofs [hl2], fun j hji => by simp -implicitDefEqProofs [hj j (by omega) hji]⟩
      cases d <;> simp -implicitDefEqProofs at hd <;> subst hd <;> simp -implicitDefEqProofs [lp1_Plan_init, F_is_line, ho, hl2, hz, planP, hf]
  · rintro e m' ⟨rfl, ⟨a, b, rfl⟩, hj⟩
    have : xs.findIdx? (fun x => !lineOk xs.length x) = none := by
      rw [List.findIdx?_eq_none_iff]
      intro x hx
      obtain ⟨j, hj2, rfl⟩ := List.mem_iff_getElem.mp hx
      have := hj j hj2 (by rw [enD_len]; exact hj2)
      simp -implicitDefEqProofs [this]
    unfold planP
    rw [this]
    exact ⟨a, b, rfl⟩
theorem lineOk_head {n : Int} {z : D} (h : lineOk n z = true) (ho : okAll OWN 4 z = true) : ∃ w rest, (z = .tup (.str w :: rest) ∨ z = .lst (.str w :: rest)) ∧ PyData.strOk w = true ∧ rest.length < 16777216 := by
  have hw : ∀ {ws : List Str} {d : D}, wordD ws d = true → ∃ w, d = .str w := fun {ws d} q => by cases d <;> simp_all
  have key : ∀ xs, seqD z = some xs → ∃ w rest, xs = .str w :: rest := by
    intro xs e
    unfold lineOk at h
    rw [e] at h
    split at h
    · rename_i w q; cases q; obtain ⟨v, rfl⟩ := hw h; exact ⟨v, _, rfl⟩
    · rename_i w t q; cases q; obtain ⟨v, rfl⟩ := hw (He.ba h).1; exact ⟨v, _, rfl⟩
    · rename_i w c t q; cases q; obtain ⟨v, rfl⟩ := hw (He.ba h).1; exact ⟨v, _, rfl⟩
    · cases h
  cases z with
  | tup xs =>
    obtain ⟨w, rest, rfl⟩ := key xs rfl
    simp -implicitDefEqProofs [okAll, okAlls] at ho
    exact ⟨w, rest, .inl rfl, ho.1.1, by omega⟩
  | lst xs =>
    obtain ⟨w, rest, rfl⟩ := key xs rfl
    simp -implicitDefEqProofs [okAll, okAlls] at ho
    exact ⟨w, rest, .inr rfl, ho.1.1, by omega⟩
  | _ => simp -implicitDefEqProofs [lineOk] at h
theorem at_last {ys : List D} {z : D} : ((if (-((ys ++ [z]).length : Int)) ≤ -1 then some (-1 + ((ys ++ [z]).length : Int)).toNat else none).bind fun j => (ys ++ [z])[j]?) = some z := by
  have h1 : -((ys ++ [z]).length : Int) ≤ -1 := by rw [List.length_append, List.length_singleton]; omega
  have h2 : (-1 + ((ys ++ [z]).length : Int)).toNat = ys.length := by rw [List.length_append, List.length_singleton]; omega
  rw [if_pos h1, h2]
  simp -implicitDefEqProofs
theorem eq_Plan_init : ∀ ds, ds.length = 1 → F_Plan_init ds ≠ .stuck → outI (g_Plan_init (startD 4 (.l 0 :: ds.map .d)) [some (.obj "Plan" [])]) = F_Plan_init ds := by
  intro ds hl h
  unfold F_Plan_init at h ⊢
  split at h <;> try exact absurd rfl h
  rename_i d
  split at h <;> try exact absurd rfl h
  rename_i hd
  rw [if_pos hd]
  have hk := okAll_ok hd
  cases d
  case tup =>
    rename_i xs
    have hd' := hd
    simp -implicitDefEqProofs only [okAll, Bool.and_eq_true, decide_eq_true_eq, s_sz] at hd'
    obtain ⟨h1, h2⟩ := hd'
    simp -implicitDefEqProofs only [seqD]
    by_cases c1 : (1 : Int) ≤ xs.length
    · by_cases c2 : (xs.length : Int) ≤ 16
      · have hp := plan_loop (.tup xs) xs h1 h2 rfl [some (.obj "Plan" [])] none none
        unfold planP at hp
        cases q : xs.findIdx? (fun x => !lineOk xs.length x) with
        | some j =>
          rw [q] at hp
          obtain ⟨e, hp⟩ := hp
          simp -implicitDefEqProofs [g_Plan_init, F_is_row, h2, c1, c2, hp]
        | none =>
          rw [q] at hp
          obtain ⟨a, b, hp⟩ := hp
          obtain ⟨ys, z, rfl⟩ : ∃ ys z, xs = ys ++ [z] := by
            rcases List.eq_nil_or_concat xs with e | ⟨ys, z, e⟩
            · subst e; simp -implicitDefEqProofs at c1
            · exact ⟨ys, z, by rw [e, List.concat_eq_append]⟩
          have hz : lineOk (ys ++ [z]).length z = true := by
            have := List.findIdx?_eq_none_iff.mp q z (by simp -implicitDefEqProofs)
            simpa using this
          obtain ⟨w, rest, hw, hs, hr⟩ := lineOk_head hz (okAlls_at h1 z (by simp -implicitDefEqProofs))
          simp -implicitDefEqProofs only [List.length_append, List.length_singleton] at c1 c2 h2 hp
          have n1 : ¬ ((ys.length : Int) + 1 < 1) := by omega
          have n2 : ¬ (16 < (ys.length : Int) + 1) := by omega
          have n3 : (1 : Int) ≤ ys.length + 1 := by omega
          have n4 : (ys.length : Int) + 1 ≤ 16 := by omega
          have n5 : -((ys.length : Int) + 1) ≤ -1 := by omega
          have n6 : (-1 + ((ys.length : Int) + 1)).toNat = ys.length := by omega
          have n7 : rest.length + 1 ≤ 16777216 := by omega
          have n8 : (0 : Int) < (rest.length : Int) + 1 := by omega
          rcases hw with rfl | rfl
          all_goals
            by_cases e1 : w = "end"
            · subst e1
              simp -implicitDefEqProofs [g_Plan_init, F_is_row, h2, n1, n2, n3, n4, n5, n6, n7, n8, hp, F_frozen, frzF, hd, hs]
            · by_cases e2 : w = "go"
              · subst e2
                simp -implicitDefEqProofs [g_Plan_init, F_is_row, h2, n1, n2, n3, n4, n5, n6, n7, n8, hp, F_frozen, frzF, hd, hs]
              · simp -implicitDefEqProofs [g_Plan_init, F_is_row, h2, n1, n2, n3, n4, n5, n6, n7, n8, hp, F_frozen, frzF, hd, hs, e1, e2]
      · simp -implicitDefEqProofs [g_Plan_init, F_is_row, h2, c1, c2]
    · simp -implicitDefEqProofs [g_Plan_init, F_is_row, h2, c1]
  case lst =>
    rename_i xs
    have hd' := hd
    simp -implicitDefEqProofs only [okAll, Bool.and_eq_true, decide_eq_true_eq, s_sz] at hd'
    obtain ⟨h1, h2⟩ := hd'
    simp -implicitDefEqProofs only [seqD]
    by_cases c1 : (1 : Int) ≤ xs.length
    · by_cases c2 : (xs.length : Int) ≤ 16
      · have hp := plan_loop (.lst xs) xs h1 h2 rfl [some (.obj "Plan" [])] none none
        unfold planP at hp
        cases q : xs.findIdx? (fun x => !lineOk xs.length x) with
        | some j =>
          rw [q] at hp
          obtain ⟨e, hp⟩ := hp
          simp -implicitDefEqProofs [g_Plan_init, F_is_row, h2, c1, c2, hp]
        | none =>
          rw [q] at hp
          obtain ⟨a, b, hp⟩ := hp
          obtain ⟨ys, z, rfl⟩ : ∃ ys z, xs = ys ++ [z] := by
            rcases List.eq_nil_or_concat xs with e | ⟨ys, z, e⟩
            · subst e; simp -implicitDefEqProofs at c1
            · exact ⟨ys, z, by rw [e, List.concat_eq_append]⟩
          have hz : lineOk (ys ++ [z]).length z = true := by
            have := List.findIdx?_eq_none_iff.mp q z (by simp -implicitDefEqProofs)
            simpa using this
          obtain ⟨w, rest, hw, hs, hr⟩ := lineOk_head hz (okAlls_at h1 z (by simp -implicitDefEqProofs))
          simp -implicitDefEqProofs only [List.length_append, List.length_singleton] at c1 c2 h2 hp
          have n1 : ¬ ((ys.length : Int) + 1 < 1) := by omega
          have n2 : ¬ (16 < (ys.length : Int) + 1) := by omega
          have n3 : (1 : Int) ≤ ys.length + 1 := by omega
          have n4 : (ys.length : Int) + 1 ≤ 16 := by omega
          have n5 : -((ys.length : Int) + 1) ≤ -1 := by omega
          have n6 : (-1 + ((ys.length : Int) + 1)).toNat = ys.length := by omega
          have n7 : rest.length + 1 ≤ 16777216 := by omega
          have n8 : (0 : Int) < (rest.length : Int) + 1 := by omega
          rcases hw with rfl | rfl
          all_goals
            by_cases e1 : w = "end"
            · subst e1
              simp -implicitDefEqProofs [g_Plan_init, F_is_row, h2, n1, n2, n3, n4, n5, n6, n7, n8, hp, F_frozen, frzF, hd, hs]
            · by_cases e2 : w = "go"
              · subst e2
                simp -implicitDefEqProofs [g_Plan_init, F_is_row, h2, n1, n2, n3, n4, n5, n6, n7, n8, hp, F_frozen, frzF, hd, hs]
              · simp -implicitDefEqProofs [g_Plan_init, F_is_row, h2, n1, n2, n3, n4, n5, n6, n7, n8, hp, F_frozen, frzF, hd, hs, e1, e2]
      · simp -implicitDefEqProofs [g_Plan_init, F_is_row, h2, c1, c2]
    · simp -implicitDefEqProofs [g_Plan_init, F_is_row, h2, c1]
  all_goals simp_all [g_Plan_init, F_is_row]
theorem ok_Plan_init {P : Program} {w : World} {K : PySem.W.Frag} {mg : Str → Option Value} {base : Heap} (gc : mg "Plan" = some (.ref (cA K "Plan"))) (M : Mk K (cA K "Plan") (He.ma K (cA K "Plan") "__init__")) {fd : FuncData} (F0 : FunD K "__init__" "Plan.__init__" (defArgs (inClass (top 17) 0)) (defBody (inClass (top 17) 0)) (defScope (inClass (top 17) 0)) [] [] (He.ma K (cA K "Plan") "__init__") fd) (h_is_row : FnP P w K mg base 2 "is_row" 3 F_is_row) (g_MOST_LINES : GC K mg "MOST_LINES" D_MOST_LINES) (e_BadValue : ErrK K mg "BadValue") (m_enumerate : mg "enumerate" = none) (h_is_line : FnP P w K mg base 3 "is_line" 2 F_is_line) (m_len : mg "len" = none) (e_BadLine : ErrK K mg "BadLine") (h_frozen : FnP P w K mg base 7 "frozen" 1 (F_frozen 5)) (ff_Plan : FldK K "Plan" ["_lines"]) : NewOk P w K mg base 8 "Plan" 1 ["lines"] F_Plan_init :=
  okN gc M F0 sc_Plan_init rfl rfl (fun _ _ _ _ _ _ us hl => match us, hl with | [_, _], _ => rfl) (fun _ _ _ _ _ _ us ws h1 h2 => match us, h1, ws, h2 with | [_], _, [_], _ => rfl) (sb_Plan_init h_is_row g_MOST_LINES e_BadValue m_enumerate h_is_line m_len e_BadLine h_frozen ff_Plan _) eq_Plan_init
end DL
set_option maxHeartbeats 4000000
namespace DL
open PySem PySem.Spec PyProof.Rows L2
/-! ### Plan.__len__ -/
abbrev nm_Plan_len : List Str := ["self"]
abbrev ps_Plan_len : List Str := ["self"]
theorem sc_Plan_len : FnScope nm_Plan_len ps_Plan_len (defScope (inClass (top 17) 2)) := ⟨rfl, rfl, rfl, by decide +kernel, rfl, by decide +kernel, by decide +kernel⟩
theorem nd_Plan_len : nm_Plan_len.Nodup := sc_Plan_len.nd
noncomputable def g_Plan_len : Env → Mu → RS :=
  zRet (xCB oLen (xCons (xFld "Plan" "_lines" (xVar 0)) (xNil)))
theorem sb_Plan_len {P : Program} {w : World} {K : PySem.W.Frag} {mg : Str → Option Value} {base : Heap} (ff_Plan : FldK K "Plan" ["_lines"]) (m_len : mg "len" = none) : ∀ (f : Addr) cd A outer s H E, Cok (cxD P w K mg base nm_Plan_len "Plan.__len__" (defScope (inClass (top 17) 2)) f cd A outer s H E) (fun c d _ H => E c d H) 0 → SB (cxD P w K mg base nm_Plan_len "Plan.__len__" (defScope (inClass (top 17) 2)) f cd A outer s H E) (fun c d _ H => E c d H) (defBody (inClass (top 17) 2)) g_Plan_len := fun f cd A outer s H E C =>
  (sb_one (ss_ret (se_cb cs_len rfl m_len (by decide +kernel) (sa_cons (se_fld ff_Plan (by decide) (se_var 0 rfl (.inl rfl))) sa_nil))))
-- kind: M
noncomputable def F_Plan_len : List D → R0 := fun ds => match ds with
  | [x] => (match dec plD x with
    | some ls => if ls.length ≤ 16 then .ok (.int ls.length) else .stuck
    | none => .stuck)
  | _ => .stuck
theorem eq_Plan_len : ∀ ds, ds.length = 1 → F_Plan_len ds ≠ .stuck → outP (g_Plan_len (startD 1 (ds.map .d)) []) = F_Plan_len ds := by
  intro ds hl h
  unfold F_Plan_len at h ⊢
  split at h <;> try exact absurd rfl h
  split at h <;> try exact absurd rfl h
  rename_i ls e
  have e2 := dec_some e
  subst e2
  split at h <;> try exact absurd rfl h
  rename_i hl
  have : ls.length ≤ 16777216 := by omega
  have : (ls.length : Int) < 9223372036854775808 := by omega
  simp_all [g_Plan_len]
theorem ok_Plan_len {P : Program} {w : World} {K : PySem.W.Frag} {mg : Str → Option Value} {base : Heap} (hm : Meth K (cA K "Plan") "__len__" (He.ma K (cA K "Plan") "__len__")) {fd : FuncData} (F0 : FunD K "__len__" "Plan.__len__" (defArgs (inClass (top 17) 2)) (defBody (inClass (top 17) 2)) (defScope (inClass (top 17) 2)) [] [] (He.ma K (cA K "Plan") "__len__") fd) (ff_Plan : FldK K "Plan" ["_lines"]) (m_len : mg "len" = none) : MtP P w K mg base 1 "Plan" "__len__" 1 F_Plan_len :=
  okM hm F0 sc_Plan_len rfl (fun _ _ _ _ _ _ us hl => match us, hl with | [_], _ => rfl) (sb_Plan_len ff_Plan m_len _) eq_Plan_len
/-! ### Plan.__eq__ -/
abbrev nm_Plan_eq : List Str := ["self", "other"]
abbrev ps_Plan_eq : List Str := ["self", "other"]
theorem sc_Plan_eq : FnScope nm_Plan_eq ps_Plan_eq (defScope (inClass (top 17) 3)) := ⟨rfl, rfl, rfl, by decide +kernel, rfl, by decide +kernel, by decide +kernel⟩
theorem nd_Plan_eq : nm_Plan_eq.Nodup := sc_Plan_eq.nd
noncomputable def g_Plan_eq : Env → Mu → RS :=
  zRet (xAnd (xCB (oIs OWN) (xCons (xVar 1) (xCons (xC (.cls "Plan")) (xNil)))) (xBin oEq (xFld "Plan" "_lines" (xVar 0)) (xFld "Plan" "_lines" (xVar 1))))
theorem sb_Plan_eq {P : Program} {w : World} {K : PySem.W.Frag} {mg : Str → Option Value} {base : Heap} (c_Plan : mg "Plan" = some (.ref (cA K "Plan"))) (m_isinstance : mg "isinstance" = none) (kI : IsiK K OWN) (ff_Plan : FldK K "Plan" ["_lines"]) (pp_lines : PropK P w K mg base 1 "Plan" "lines" "_lines") : ∀ (f : Addr) cd A outer s H E, Cok (cxD P w K mg base nm_Plan_eq "Plan.__eq__" (defScope (inClass (top 17) 3)) f cd A outer s H E) (fun c d _ H => E c d H) 2 → SB (cxD P w K mg base nm_Plan_eq "Plan.__eq__" (defScope (inClass (top 17) 3)) f cd A outer s H E) (fun c d _ H => E c d H) (defBody (inClass (top 17) 3)) g_Plan_eq := fun f cd A outer s H E C =>
  (sb_one (ss_ret (se_and (se_cb (cs_is kI) rfl m_isinstance (by decide +kernel) (sa_cons (se_var 1 rfl (.inl rfl)) (sa_cons (se_clsN rfl c_Plan) sa_nil))) (se_one (se_cmp (os_eq C.hr.units) (se_fld ff_Plan (by decide) (se_var 0 rfl (.inl rfl))) (se_prop pp_lines (C.hr.mono (by first | decide | omega)) (se_var 1 rfl (.inl rfl))) (nomark _))))))
-- kind: M
noncomputable def F_Plan_eq : List D → R0 := fun ds => match ds with
  | [x, y] => (match dec plD x with
    | some ls => (match dec plD y with
      | some ms => .ok (.bl (decide (ls = ms)))
      | none => if okD OWN y = true ∧ isObj "Plan" y = false then .ok (.bl false) else .stuck)
    | none => .stuck)
  | _ => .stuck
theorem eq_Plan_eq : ∀ ds, ds.length = 2 → F_Plan_eq ds ≠ .stuck → outP (g_Plan_eq (startD 2 (ds.map .d)) []) = F_Plan_eq ds := by
  intro ds hl h
  unfold F_Plan_eq at h ⊢
  split at h <;> try exact absurd rfl h
  rename_i x y
  split at h <;> try exact absurd rfl h
  rename_i p e
  have e2 := dec_some e
  subst e2
  split at h
  · rename_i q e3
    have e4 := dec_some e3
    subst e4
    simp -implicitDefEqProofs [g_Plan_eq]
  · split at h <;> try exact absurd rfl h
    rename_i e3 hd
    rw [if_pos hd]
    cases y with
    | obj c fs =>
      have hc : c = "Printer" := by
        obtain ⟨h1, h2⟩ := hd
        simp -implicitDefEqProofs at h1 h2
        simpa [h2] using h1
      subst hc
      simp -implicitDefEqProofs [g_Plan_eq]
    | _ => simp_all [g_Plan_eq]
theorem ok_Plan_eq {P : Program} {w : World} {K : PySem.W.Frag} {mg : Str → Option Value} {base : Heap} (hm : Meth K (cA K "Plan") "__eq__" (He.ma K (cA K "Plan") "__eq__")) {fd : FuncData} (F0 : FunD K "__eq__" "Plan.__eq__" (defArgs (inClass (top 17) 3)) (defBody (inClass (top 17) 3)) (defScope (inClass (top 17) 3)) [] [] (He.ma K (cA K "Plan") "__eq__") fd) (c_Plan : mg "Plan" = some (.ref (cA K "Plan"))) (m_isinstance : mg "isinstance" = none) (kI : IsiK K OWN) (ff_Plan : FldK K "Plan" ["_lines"]) (pp_lines : PropK P w K mg base 1 "Plan" "lines" "_lines") : MtP P w K mg base 3 "Plan" "__eq__" 2 F_Plan_eq :=
  okM hm F0 sc_Plan_eq rfl (fun _ _ _ _ _ _ us hl => match us, hl with | [_, _], _ => rfl) (sb_Plan_eq c_Plan m_isinstance kI ff_Plan pp_lines _) eq_Plan_eq
end DL
set_option maxHeartbeats 4000000
namespace DL
open PySem PySem.Spec PyProof.Rows L2
/-! ### _law_numbers -/
abbrev nm__law_numbers : List Str := ["script", "row", "cell", "left", "k", "mixed"]
abbrev ps__law_numbers : List Str := ["script"]
theorem sc__law_numbers : FnScope nm__law_numbers ps__law_numbers (defScope (top 20)) := ⟨rfl, rfl, rfl, by decide +kernel, rfl, by decide +kernel, by decide +kernel⟩
theorem nd__law_numbers : nm__law_numbers.Nodup := sc__law_numbers.nd
noncomputable def lp1__law_numbers : Env → Mu → RS :=
  zSeq (zIf (xTst (xBin oEq (xVar 3) (xC (.int 0)))) (zBrk) (zNil))
  (zSeq (zExpr (xBM isL oAppend (xVar 1) (xCons (xBin oMod (xCB oInt (xCons (xVar 3) (xNil))) (xC (.int 997))) (xNil))))
  (zAsg (xBin oFdiv (xVar 3) (xC (.int 997))) (gN 3)))
noncomputable def lp2__law_numbers : Env → Mu → RS :=
  zSeq (zAsg (xBin oMod (xCB oInt (xCons (xBin oAdd (xBin oAdd (xBin oMulT (xVar 2) (xC (.int 48271))) (xBin oMulT (xVar 4) (xC (.int 69621)))) (xC (.int 11))) (xNil))) (xC (.int 2147483647))) (gN 5))
  (zExpr (xBM isL oAppend (xVar 1) (xCons (xBin oMod (xCB oInt (xCons (xBin oAdd (xBin oMulT (xVar 5) (xC (.int 16807))) (xVar 4)) (xNil))) (xC (.int 2147483629))) (xNil))))
noncomputable def lp3__law_numbers : Env → Mu → RS :=
  zIf (xTst (xBin oGe (xVar 2) (xBin oPow (xC (.int 10)) (xC (.int 18))))) (zSeq (zAsg (xVar 2) (gN 3))
  (zFor (iRng iRg1 (xCons (xC (.int 60)) (xNil))) (gN 4) lp1__law_numbers)) (zFor (iRng iRg1 (xCons (xC (.int 4)) (xNil))) (gN 4) lp2__law_numbers)
noncomputable def g__law_numbers : Env → Mu → RS :=
  zSeq (zAsg (xCel (xLst (xNil))) (gN 1))
  (zSeq (zFor (iSeq (xFrz (xSlL (xVar 0) (xNoPart) (xPart (xC (.int 63)))))) (gN 2) lp3__law_numbers)
  (zSeq (zIf (xTst (xBin oEq (xCB oLen (xCons (xVar 1) (xNil))) (xC (.int 0)))) (zExpr (xBM isL oAppend (xVar 1) (xCons (xC (.int 0)) (xNil)))) (zNil))
  (zRet (xVar 1))))
theorem sb__law_numbers {P : Program} {w : World} {K : PySem.W.Frag} {mg : Str → Option Value} {base : Heap} (m_range : mg "range" = none) (m_int : mg "int" = none) (m_len : mg "len" = none) : ∀ (f : Addr) cd A outer s H E, Cok (cxD P w K mg base nm__law_numbers "_law_numbers" (defScope (top 20)) f cd A outer s H E) (fun c d _ H => E c d H) 0 → SB (cxD P w K mg base nm__law_numbers "_law_numbers" (defScope (top 20)) f cd A outer s H E) (fun c d _ H => E c d H) (defBody (top 20)) g__law_numbers := fun f cd A outer s H E C =>
  (sb_cons (ss_set (i := 1) nd__law_numbers rfl (.inl rfl) (sf_cel (sf_lst sa_nil)))
  (sb_cons (ss_for C.po C.calm (si_seq (sf_frz (sf_slice (se_var 0 rfl (.inl rfl)) so_none (so_some se_int)))) (sg_name (i := 2) nd__law_numbers rfl (.inl rfl)) (sb_one (ss_if (st_cmp os_ge (se_var 2 rfl (.inl rfl)) (se_op os_pow se_int se_int) (nomark _)) (sb_cons (ss_set (i := 3) nd__law_numbers rfl (.inl rfl) (se_var 2 rfl (.inl rfl)))
  (sb_one (ss_for C.po C.calm (si_range1 rfl m_range (sa_cons se_int sa_nil)) (sg_name (i := 4) nd__law_numbers rfl (.inl rfl)) (sb_cons (ss_if (st_cmp (os_eq C.hr.units) (se_var 3 rfl (.inl rfl)) se_int (nomark _)) (sb_one ss_break) sb_nil)
  (sb_cons (ss_expr (se_append (se_var 1 rfl (.inl rfl)) (sa_cons (se_op os_mod (se_ct cs_int rfl m_int (by decide +kernel) (sa_cons (se_var 3 rfl (.inl rfl)) sa_nil)) se_int) sa_nil)))
  (sb_one (ss_set (i := 3) nd__law_numbers rfl (.inl rfl) (se_op os_fdiv (se_var 3 rfl (.inl rfl)) se_int)))))))) (sb_one (ss_for C.po C.calm (si_range1 rfl m_range (sa_cons se_int sa_nil)) (sg_name (i := 4) nd__law_numbers rfl (.inl rfl)) (sb_cons (ss_set (i := 5) nd__law_numbers rfl (.inl rfl) (se_op os_mod (se_ct cs_int rfl m_int (by decide +kernel) (sa_cons (se_op os_add (se_op os_add (se_op os_mulT (se_var 2 rfl (.inl rfl)) se_int) (se_op os_mulT (se_var 4 rfl (.inl rfl)) se_int)) se_int) sa_nil)) se_int))
  (sb_one (ss_expr (se_append (se_var 1 rfl (.inl rfl)) (sa_cons (se_op os_mod (se_ct cs_int rfl m_int (by decide +kernel) (sa_cons (se_op os_add (se_op os_mulT (se_var 5 rfl (.inl rfl)) se_int) (se_var 4 rfl (.inl rfl))) sa_nil)) se_int) sa_nil))))))))))
  (sb_cons (ss_if (st_cmp (os_eq C.hr.units) (se_cb cs_len rfl m_len (by decide +kernel) (sa_cons (se_var 1 rfl (.inl rfl)) sa_nil)) se_int (nomark _)) (sb_one (ss_expr (se_append (se_var 1 rfl (.inl rfl)) (sa_cons se_int sa_nil)))) sb_nil)
  (sb_one (ss_ret (se_var 1 rfl (.inl rfl)))))))
-- kind: P
-- lists: script
theorem cpow_18 : CPow 10 18 := ⟨by decide, by decide, by decide⟩
theorem numbers_row (s : List Int) (hs : s.length ≤ 63) : ∃ ns : List Int, ns ≠ [] ∧ ns.length ≤ 4000 ∧ outP (g__law_numbers (startD 6 [.d (.scr s)]) []) = .ok (.lst (ns.map .int)) := by
  have c4 : ∀ a, CMul a 48271 := fun a => cmul_r (by decide) (by decide)
  have c6 : ∀ a, CMul a 69621 := fun a => cmul_r (by decide) (by decide)
  have c1 : ∀ a, CMul a 16807 := fun a => cmul_r (by decide) (by decide)
  have outer : ∀ (xs : List Int), xs.length ≤ 63 → ∀ e m, (∃ a b c d, e = [some (.d (.scr s)), some (.l 0), a, b, c, d]) → m = [some (.lst [])] →
      ∃ (e' : Env) (ns : List Int), (∃ a b c d, e' = [some (.d (.scr s)), some (.l 0), a, b, c, d]) ∧ ns.length ≤ 60 * xs.length ∧
        dFor (gN 2) lp3__law_numbers
        (xs.map fun n => .d (.int n)) e m = .nx e' [some (.lst (ns.map .int))] := by
    intro xs hx e m he hm
    refine dFor_rule (fun r => ∃ (e' : Env) (ns : List Int), (∃ a b c d, e' = [some (.d (.scr s)), some (.l 0), a, b, c, d]) ∧ ns.length ≤ 60 * xs.length ∧ r = .nx e' [some (.lst (List.map D.int ns))])
      (xs := xs.map fun n => Va.d (.int n)) (fun i e m => ∃ (ns : List Int), (∃ a b c d, e = [some (.d (.scr s)), some (.l 0), a, b, c, d]) ∧ ns.length ≤ 60 * i ∧ m = [some (.lst (ns.map .int))]) ⟨[], he, by simp, by simpa using hm⟩ ?_ ?_
    · rintro i x e m hx ⟨ns, ⟨a, b, c, d, rfl⟩, hl, rfl⟩
      have hi : i < xs.length := by
        have := (List.getElem?_eq_some_iff.mp hx).1
        rwa [List.length_map] at this
      rw [List.getElem?_map] at hx
      obtain ⟨cell, hc, rfl⟩ := Option.map_eq_some_iff.mp hx
      by_cases cc : 10 ^ 18 ≤ cell
      · have cc' : (1000000000000000000 : Int) ≤ cell := by simpa using cc
        simp -implicitDefEqProofs [lp3__law_numbers, cpow_18, cc']
        refine dFor_rule _ (fun j e m => ∃ (ns : List Int) (left : Int), (∃ a c d, e = [some (.d (.scr s)), some (.l 0), a, some (.d (.int left)), c, d]) ∧ ns.length ≤ 60 * i + j ∧ m = [some (.lst (ns.map .int))]) ⟨ns, cell, ⟨_, _, _, rfl⟩, by simpa using hl, rfl⟩ ?_ ?_
        · rintro j y e m hy ⟨ns, left, ⟨a, c, d, rfl⟩, hl, rfl⟩
          have hj : j < 60 := by
            have := (List.getElem?_eq_some_iff.mp hy).1
            simpa [rngD] using this
          have hz : ns.length < 16777216 := by omega
          by_cases l0 : left = 0
          · subst l0
            simp -implicitDefEqProofs
            exact ⟨⟨_, _, _, _, rfl⟩, ns, by omega, rfl⟩
          · have l0' : (left == 0) = false := by simpa using l0
            simp -implicitDefEqProofs [lp1__law_numbers, l0', hz]
            exact ⟨ns ++ [left.fmod 997], by simp -implicitDefEqProofs; omega, by simp⟩
        · rintro e m ⟨ns, left, ⟨a, c, d, rfl⟩, hl, rfl⟩
          simp -implicitDefEqProofs [rngD] at hl
          simp -implicitDefEqProofs
          exact ⟨ns, by omega, rfl⟩
      · have cc' : ¬ (1000000000000000000 : Int) ≤ cell := by simpa using cc
        simp -implicitDefEqProofs [lp3__law_numbers, cpow_18, cc']
        refine dFor_rule _ (fun j e m => ∃ (ns : List Int), (∃ b c d, e = [some (.d (.scr s)), some (.l 0), some (.d (.int cell)), b, c, d]) ∧ ns.length ≤ 60 * i + j ∧ m = [some (.lst (ns.map .int))]) ⟨ns, ⟨_, _, _, rfl⟩, by simpa using hl, rfl⟩ ?_ ?_
        · rintro j y e m hy ⟨ns, ⟨b, c, d, rfl⟩, hl, rfl⟩
          have hj : j < 4 := by
            have := (List.getElem?_eq_some_iff.mp hy).1
            simpa [rngD] using this
          have hz : ns.length < 16777216 := by omega
          have ey : y = .d (.int (0 + (j : Nat))) := by
            unfold rngD at hy
            rw [List.getElem?_map, List.getElem?_range (by simpa using hj)] at hy
            cases hy
            rfl
          subst ey
          simp -implicitDefEqProofs [lp2__law_numbers, hz, c4, c6, c1]
          exact ⟨ns ++ [(((cell * 48271 + j * 69621 + 11).fmod 2147483647) * 16807 + j).fmod 2147483629], by simp -implicitDefEqProofs; omega, by simp⟩
        · rintro e m ⟨ns, ⟨b, c, d, rfl⟩, hl, rfl⟩
          simp -implicitDefEqProofs [rngD] at hl
          simp -implicitDefEqProofs
          exact ⟨ns, by omega, rfl⟩
    · rintro e m ⟨ns, he, hl, rfl⟩
      exact ⟨e, ns, he, by simpa using hl, rfl⟩
  have hcut : (cutD (s.map D.int) none (some 63)) = (s.take 63).map D.int := by
    unfold cutD
    simp -implicitDefEqProofs [HT.sIx]
  obtain ⟨e', ns, ⟨a, b, c, d, rfl⟩, hl, hr⟩ := outer (s.take 63) (by rw [List.length_take]; omega) [some (.d (.scr s)), some (.l 0), none, none, none, none] [some (.lst [])] ⟨_, _, _, _, rfl⟩ rfl
  have hlen : ns.length ≤ 3780 := by rw [List.length_take] at hl; omega
  have hz : ns.length < 16777216 := by omega
  have hr1 : dFor (gN 2) lp3__law_numbers (List.take 63 (List.map (Va.d ∘ D.int) s)) [some (.d (.scr s)), some (.l 0), none, none, none, none] [some (.lst [])] = .nx [some (.d (.scr s)), some (.l 0), a, b, c, d] [some (.lst (ns.map D.int))] := by
    rw [← List.map_take]
    exact hr
  by_cases h0 : ns = []
  · subst h0
    refine ⟨[0], by simp, by simp, ?_⟩
    simp -implicitDefEqProofs only [List.map_nil] at hr1
    have hz0 : 0 < 16777216 := by omega
    simp -implicitDefEqProofs [g__law_numbers, hcut, hr1, hz0]
  · refine ⟨ns, h0, by omega, ?_⟩
    simp -implicitDefEqProofs [g__law_numbers, hcut, hr1, h0]
open Classical in
noncomputable def numbersV (s : List Int) : List Int := if h : s.length ≤ 63 then (numbers_row s h).choose else [0]
theorem numbersV_ne {s : List Int} (h : s.length ≤ 63) : numbersV s ≠ [] := by
  unfold numbersV
  rw [dif_pos h]
  exact (numbers_row s h).choose_spec.1
theorem numbersV_len {s : List Int} (h : s.length ≤ 63) : (numbersV s).length ≤ 4000 := by
  unfold numbersV
  rw [dif_pos h]
  exact (numbers_row s h).choose_spec.2.1
noncomputable def F_law_numbers : List D → R0
  | [.scr s] => if s.length ≤ 63 then .ok (.lst ((numbersV s).map .int)) else .stuck
  | _ => .stuck
theorem eq_law_numbers : ∀ ds, ds.length = 1 → F_law_numbers ds ≠ .stuck → outP (g__law_numbers (startD 6 (ds.map .d)) []) = F_law_numbers ds := by
  intro ds hl3 h
  unfold F_law_numbers at h ⊢
  split at h <;> try exact absurd rfl h
  rename_i s
  split at h <;> try exact absurd rfl h
  rename_i hc
  rw [if_pos hc]
  unfold numbersV
  rw [dif_pos hc]
  exact (numbers_row s hc).choose_spec.2.2
theorem ok_law_numbers {P : Program} {w : World} {K : PySem.W.Frag} {mg : Str → Option Value} {base : Heap} (d : DefOk K mg "_law_numbers" "_law_numbers" "_law_numbers" (top 20)) (m_range : mg "range" = none) (m_int : mg "int" = none) (m_len : mg "len" = none) : FnP P w K mg base 1 "_law_numbers" 1 F_law_numbers :=
  okP d sc__law_numbers rfl (fun _ _ _ _ _ _ us hl => match us, hl with | [_], _ => rfl) (sb__law_numbers m_range m_int m_len) eq_law_numbers
/-! ### _law_draw -/
abbrev nm__law_draw : List Str := ["row", "at", "limit", "mixed"]
abbrev ps__law_draw : List Str := ["row", "at", "limit"]
theorem sc__law_draw : FnScope nm__law_draw ps__law_draw (defScope (top 21)) := ⟨rfl, rfl, rfl, by decide +kernel, rfl, by decide +kernel, by decide +kernel⟩
theorem nd__law_draw : nm__law_draw.Nodup := sc__law_draw.nd
noncomputable def g__law_draw : Env → Mu → RS :=
  zSeq (zIf (xTst (xBin oLt (xVar 1) (xCB oLen (xCons (xVar 0) (xNil))))) (zRet (xBin oMod (xCB oInt (xCons (xBin oIx (xVar 0) (xVar 1)) (xNil))) (xVar 2))) (zNil))
  (zSeq (zAsg (xBin oMod (xCB oInt (xCons (xBin oAdd (xBin oAdd (xBin oMulT (xBin oIx (xVar 0) (xBin oMod (xCB oInt (xCons (xVar 1) (xNil))) (xCB oLen (xCons (xVar 0) (xNil))))) (xC (.int 40692))) (xBin oMulT (xVar 1) (xC (.int 7919)))) (xC (.int 3))) (xNil))) (xC (.int 2147483399))) (gN 3))
  (zRet (xBin oMod (xCB oInt (xCons (xBin oMod (xCB oInt (xCons (xBin oAdd (xBin oMulT (xVar 3) (xC (.int 48271))) (xVar 1)) (xNil))) (xC (.int 2147483647))) (xNil))) (xVar 2))))
theorem sb__law_draw {P : Program} {w : World} {K : PySem.W.Frag} {mg : Str → Option Value} {base : Heap} (m_len : mg "len" = none) (m_int : mg "int" = none) : ∀ (f : Addr) cd A outer s H E, Cok (cxD P w K mg base nm__law_draw "_law_draw" (defScope (top 21)) f cd A outer s H E) (fun c d _ H => E c d H) 0 → SB (cxD P w K mg base nm__law_draw "_law_draw" (defScope (top 21)) f cd A outer s H E) (fun c d _ H => E c d H) (defBody (top 21)) g__law_draw := fun f cd A outer s H E C =>
  (sb_cons (ss_if (st_cmp os_lt (se_var 1 rfl (.inl rfl)) (se_cb cs_len rfl m_len (by decide +kernel) (sa_cons (se_var 0 rfl (.inl rfl)) sa_nil)) (nomark _)) (sb_one (ss_ret (se_op os_mod (se_ct cs_int rfl m_int (by decide +kernel) (sa_cons (se_ix (se_var 0 rfl (.inl rfl)) (se_var 1 rfl (.inl rfl)) (fun _ _ => rfl)) sa_nil)) (se_var 2 rfl (.inl rfl))))) sb_nil)
  (sb_cons (ss_set (i := 3) nd__law_draw rfl (.inl rfl) (se_op os_mod (se_ct cs_int rfl m_int (by decide +kernel) (sa_cons (se_op os_add (se_op os_add (se_op os_mulT (se_ix (se_var 0 rfl (.inl rfl)) (se_op os_mod (se_ct cs_int rfl m_int (by decide +kernel) (sa_cons (se_var 1 rfl (.inl rfl)) sa_nil)) (se_cb cs_len rfl m_len (by decide +kernel) (sa_cons (se_var 0 rfl (.inl rfl)) sa_nil))) (fun _ _ => rfl)) se_int) (se_op os_mulT (se_var 1 rfl (.inl rfl)) se_int)) se_int) sa_nil)) se_int))
  (sb_one (ss_ret (se_op os_mod (se_ct cs_int rfl m_int (by decide +kernel) (sa_cons (se_op os_mod (se_ct cs_int rfl m_int (by decide +kernel) (sa_cons (se_op os_add (se_op os_mulT (se_var 3 rfl (.inl rfl)) se_int) (se_var 1 rfl (.inl rfl))) sa_nil)) se_int) sa_nil)) (se_var 2 rfl (.inl rfl)))))))
-- kind: P
def drawV (ns : List Int) (at_ lim : Int) : Int :=
  if at_ < ns.length then (ns.getD at_.toNat 0).fmod lim
  else (((ns.getD (at_.fmod ns.length).toNat 0 * 40692 + at_ * 7919 + 3).fmod 2147483399 * 48271 + at_).fmod 2147483647).fmod lim
theorem drawV_lo {ns : List Int} {a lim : Int} (h : 0 < lim) : 0 ≤ drawV ns a lim := by
  unfold drawV
  split <;> exact Int.fmod_nonneg_of_pos _ h
theorem drawV_hi {ns : List Int} {a lim : Int} (h : 0 < lim) : drawV ns a lim < lim := by
  unfold drawV
  split <;> exact Int.fmod_lt_of_pos _ h
def F_law_draw : List D → R0
  | [.lst r, .int a, .int lim] => (match intsOf r with
    | some ns => if ns ≠ [] ∧ 0 ≤ a ∧ 0 < lim then .ok (.int (drawV ns a lim)) else .stuck
    | none => .stuck)
  | _ => .stuck
theorem eq_law_draw : ∀ ds, ds.length = 3 → F_law_draw ds ≠ .stuck → outP (g__law_draw (startD 4 (ds.map .d)) []) = F_law_draw ds := by
  intro ds hl3 h
  unfold F_law_draw at h ⊢
  split at h <;> try exact absurd rfl h
  rename_i r a lim
  split at h <;> try exact absurd rfl h
  rename_i ns e
  have er := intsOf_eq e
  subst er
  split at h <;> try exact absurd rfl h
  rename_i hc
  obtain ⟨h0, ha, hl⟩ := hc
  have hp : 0 < (ns.length : Int) := by
    have := List.length_pos_iff.mpr h0
    omega
  have hm0 : 0 ≤ a.fmod ns.length := Int.fmod_nonneg_of_pos _ hp
  have hm1 : a.fmod ns.length < ns.length := Int.fmod_lt_of_pos _ hp
  have hl0 : lim ≠ 0 := by omega
  by_cases c : a < ns.length
  · simp -implicitDefEqProofs [g__law_draw, c, atI_ints ha c, hl0, drawV, h0, ha, hl]
  · have c79 : CMul a 7919 := cmul_r (by decide) (by decide)
    simp -implicitDefEqProofs [g__law_draw, c, atI_ints hm0 hm1, hl0, h0, drawV, c79, cmul_r, ha, hl]
theorem ok_law_draw {P : Program} {w : World} {K : PySem.W.Frag} {mg : Str → Option Value} {base : Heap} (d : DefOk K mg "_law_draw" "_law_draw" "_law_draw" (top 21)) (m_len : mg "len" = none) (m_int : mg "int" = none) : FnP P w K mg base 1 "_law_draw" 3 F_law_draw :=
  okP d sc__law_draw rfl (fun _ _ _ _ _ _ us hl => match us, hl with | [_, _, _], _ => rfl) (sb__law_draw m_len m_int) eq_law_draw
/-! ### _law_take -/
abbrev nm__law_take : List Str := ["row", "spot", "limit"]
abbrev ps__law_take : List Str := ["row", "spot", "limit"]
theorem sc__law_take : FnScope nm__law_take ps__law_take (defScope (top 22)) := ⟨rfl, rfl, rfl, by decide +kernel, rfl, by decide +kernel, by decide +kernel⟩
theorem nd__law_take : nm__law_take.Nodup := sc__law_take.nd
noncomputable def g__law_take : Env → Mu → RS :=
  zSeq (zAsg (xBin oAdd (xBin oIx (xVar 1) (xC (.int 0))) (xC (.int 1))) (gSubL (xVar 1) (xC (.int 0))))
  (zRet (xCallP 3 F_law_draw (xCons (xVar 0) (xCons (xBin oSub (xBin oIx (xVar 1) (xC (.int 0))) (xC (.int 1))) (xCons (xVar 2) (xNil))))))
theorem sb__law_take {P : Program} {w : World} {K : PySem.W.Frag} {mg : Str → Option Value} {base : Heap} (h__law_draw : FnP P w K mg base 1 "_law_draw" 3 F_law_draw) : ∀ (f : Addr) cd A outer s H E, Cok (cxD P w K mg base nm__law_take "_law_take" (defScope (top 22)) f cd A outer s H E) (fun c d _ H => E c d H) 1 → SB (cxD P w K mg base nm__law_take "_law_take" (defScope (top 22)) f cd A outer s H E) (fun c d _ H => E c d H) (defBody (top 22)) g__law_take := fun f cd A outer s H E C =>
  (sb_cons (ss_asg (se_op os_add (se_ix (se_var 1 rfl (.inl rfl)) se_int (fun _ _ => rfl)) se_int) (sg_subL (se_var 1 rfl (.inl rfl)) se_int))
  (sb_one (ss_ret (se_callP h__law_draw (C.hr.mono (by first | decide | omega)) C.tk rfl (sa_cons (se_var 0 rfl (.inl rfl)) (sa_cons (se_op os_sub (se_ix (se_var 1 rfl (.inl rfl)) se_int (fun _ _ => rfl)) se_int) (sa_cons (se_var 2 rfl (.inl rfl)) sa_nil)))))))
-- kind: S
def F_law_take : List Va → Mu → R Va := fun as m => match as with
  | [.d (.lst r), .l n, .d (.int lim)] => (match intsOf r, m[n]? with
    | some ns, some (some (.lst [.int k])) => if ns ≠ [] ∧ 0 ≤ k ∧ 0 < lim then .ok (.d (.int (drawV ns k lim))) (m.set n (some (.lst [.int (k + 1)]))) else .stuck
    | _, _ => .stuck)
  | _ => .stuck
theorem eq_law_take : ∀ as m, as.length = 3 → F_law_take as m ≠ .stuck → OutS m (g__law_take (startD 3 as) m) (F_law_take as m) := by
  intro as m hl3 h
  unfold F_law_take at h ⊢
  split at h <;> try exact absurd rfl h
  rename_i r n lim
  split at h <;> try exact absurd rfl h
  rename_i ns k e1 e2
  have er := intsOf_eq e1
  subst er
  split at h <;> try exact absurd rfl h
  rename_i hc
  obtain ⟨h0, ha, hl⟩ := hc
  have hn : ∀ x, (m.set n x)[n]? = some x := fun x => List.getElem?_set_self (List.getElem?_eq_some_iff.mp e2).1
  have ek : k + 1 - 1 = k := by omega
  simp -implicitDefEqProofs [g__law_take, e2, atI, ixN, F_law_draw, h0, ha, hl, hn, ek, OutS]
  exact cut_set (c := .lst [.int (k + 1)]) trivial
theorem ok_law_take {P : Program} {w : World} {K : PySem.W.Frag} {mg : Str → Option Value} {base : Heap} (d : DefOk K mg "_law_take" "_law_take" "_law_take" (top 22)) (h__law_draw : FnP P w K mg base 1 "_law_draw" 3 F_law_draw) : FnS P w K mg base 2 "_law_take" 3 F_law_take :=
  okS d sc__law_take rfl (fun _ _ _ _ _ _ us hl => match us, hl with | [_, _, _], _ => rfl) (sb__law_take h__law_draw) eq_law_take
/-! ### _law_set -/
abbrev nm__law_set : List Str := ["values", "at", "value", "made"]
abbrev ps__law_set : List Str := ["values", "at", "value"]
theorem sc__law_set : FnScope nm__law_set ps__law_set (defScope (top 24)) := ⟨rfl, rfl, rfl, by decide +kernel, rfl, by decide +kernel, by decide +kernel⟩
theorem nd__law_set : nm__law_set.Nodup := sc__law_set.nd
noncomputable def g__law_set : Env → Mu → RS :=
  zSeq (zAsg (xCel (xCF oList (xCons (xVar 0) (xNil)))) (gN 3))
  (zSeq (zAsg (xVar 2) (gSubL (xVar 3) (xVar 1)))
  (zRet (xCB oTuple (xCons (xVar 3) (xNil)))))
theorem sb__law_set {P : Program} {w : World} {K : PySem.W.Frag} {mg : Str → Option Value} {base : Heap} (m_list : mg "list" = none) (m_tuple : mg "tuple" = none) : ∀ (f : Addr) cd A outer s H E, Cok (cxD P w K mg base nm__law_set "_law_set" (defScope (top 24)) f cd A outer s H E) (fun c d _ H => E c d H) 0 → SB (cxD P w K mg base nm__law_set "_law_set" (defScope (top 24)) f cd A outer s H E) (fun c d _ H => E c d H) (defBody (top 24)) g__law_set := fun f cd A outer s H E C =>
  (sb_cons (ss_set (i := 3) nd__law_set rfl (.inl rfl) (sf_cel (sf_ct cf_list rfl m_list (by decide +kernel) (sa_cons (se_var 0 rfl (.inl rfl)) sa_nil))))
  (sb_cons (ss_asg (se_var 2 rfl (.inl rfl)) (sg_subL (se_var 3 rfl (.inl rfl)) (se_var 1 rfl (.inl rfl))))
  (sb_one (ss_ret (se_ct cs_tuple rfl m_tuple (by decide +kernel) (sa_cons (se_var 3 rfl (.inl rfl)) sa_nil))))))
-- kind: P
def F_law_set : List D → R0 := fun ds => match ds with
  | [.tup xs, .int i, v] => if 0 ≤ i ∧ i < xs.length ∧ xs.length ≤ 16777216 then .ok (.tup (xs.set i.toNat v)) else .stuck
  | _ => .stuck
theorem eq_law_set : ∀ ds, ds.length = 3 → F_law_set ds ≠ .stuck → outP (g__law_set (startD 4 (ds.map .d)) []) = F_law_set ds := by
  intro ds hl h
  unfold F_law_set at h ⊢
  split at h <;> try exact absurd rfl h
  rename_i xs i v
  split at h <;> try exact absurd rfl h
  rename_i hc
  rw [if_pos hc]
  obtain ⟨h0, h1, h2⟩ := hc
  simp -implicitDefEqProofs [g__law_set, h0, h1, h2]
theorem ok_law_set {P : Program} {w : World} {K : PySem.W.Frag} {mg : Str → Option Value} {base : Heap} (d : DefOk K mg "_law_set" "_law_set" "_law_set" (top 24)) (m_list : mg "list" = none) (m_tuple : mg "tuple" = none) : FnP P w K mg base 1 "_law_set" 3 F_law_set :=
  okP d sc__law_set rfl (fun _ _ _ _ _ _ us hl => match us, hl with | [_, _, _], _ => rfl) (sb__law_set m_list m_tuple) eq_law_set
/-! ### _law_printer -/
abbrev nm__law_printer : List Str := ["row", "spot"]
abbrev ps__law_printer : List Str := ["row", "spot"]
theorem sc__law_printer : FnScope nm__law_printer ps__law_printer (defScope (top 25)) := ⟨rfl, rfl, rfl, by decide +kernel, rfl, by decide +kernel, by decide +kernel⟩
theorem nd__law_printer : nm__law_printer.Nodup := sc__law_printer.nd
noncomputable def g__law_printer : Env → Mu → RS :=
  zRet (xTup (xCons (xBin oEq (xCallS 3 F_law_take (xCons (xVar 0) (xCons (xVar 1) (xCons (xC (.int 2)) (xNil))))) (xC (.int 0))) (xCons (xBin oEq (xCallS 3 F_law_take (xCons (xVar 0) (xCons (xVar 1) (xCons (xC (.int 3)) (xNil))))) (xC (.int 0))) (xCons (xBin oGt (xCallS 3 F_law_take (xCons (xVar 0) (xCons (xVar 1) (xCons (xC (.int 3)) (xNil))))) (xC (.int 0))) (xNil)))))
theorem sb__law_printer {P : Program} {w : World} {K : PySem.W.Frag} {mg : Str → Option Value} {base : Heap} (h__law_take : FnS P w K mg base 2 "_law_take" 3 F_law_take) : ∀ (f : Addr) cd A outer s H E, Cok (cxD P w K mg base nm__law_printer "_law_printer" (defScope (top 25)) f cd A outer s H E) (fun c d _ H => E c d H) 2 → SB (cxD P w K mg base nm__law_printer "_law_printer" (defScope (top 25)) f cd A outer s H E) (fun c d _ H => E c d H) (defBody (top 25)) g__law_printer := fun f cd A outer s H E C =>
  (sb_one (ss_ret (se_tup (sa_cons (se_cmp (os_eq C.hr.units) (se_callS h__law_take (C.hr.mono (by first | decide | omega)) C.tk rfl (sa_cons (se_var 0 rfl (.inl rfl)) (sa_cons (se_var 1 rfl (.inl rfl)) (sa_cons se_int sa_nil)))) se_int (nomark _)) (sa_cons (se_cmp (os_eq C.hr.units) (se_callS h__law_take (C.hr.mono (by first | decide | omega)) C.tk rfl (sa_cons (se_var 0 rfl (.inl rfl)) (sa_cons (se_var 1 rfl (.inl rfl)) (sa_cons se_int sa_nil)))) se_int (nomark _)) (sa_cons (se_cmp os_gt (se_callS h__law_take (C.hr.mono (by first | decide | omega)) C.tk rfl (sa_cons (se_var 0 rfl (.inl rfl)) (sa_cons (se_var 1 rfl (.inl rfl)) (sa_cons se_int sa_nil)))) se_int (nomark _)) sa_nil))))))
-- kind: S
def prV (ns : List Int) (k : Int) : Pr := ⟨drawV ns k 2 == 0, drawV ns (k + 1) 3 == 0, decide (0 < drawV ns (k + 2) 3)⟩
def F_law_printer : List Va → Mu → R Va := fun as m => match as with
  | [.d (.lst r), .l n] => (match intsOf r, m[n]? with
    | some ns, some (some (.lst [.int k])) => if ns ≠ [] ∧ 0 ≤ k then .ok (.d (prT (prV ns k))) (m.set n (some (.lst [.int (k + 3)]))) else .stuck
    | _, _ => .stuck)
  | _ => .stuck
theorem eq_law_printer : ∀ as m, as.length = 2 → F_law_printer as m ≠ .stuck → OutS m (g__law_printer (startD 2 as) m) (F_law_printer as m) := by
  intro as m hl3 h
  unfold F_law_printer at h ⊢
  split at h <;> try exact absurd rfl h
  rename_i r n
  split at h <;> try exact absurd rfl h
  rename_i ns k e1 e2
  have er := intsOf_eq e1
  subst er
  split at h <;> try exact absurd rfl h
  rename_i hc
  obtain ⟨h0, ha⟩ := hc
  have hn : ∀ x, (m.set n x)[n]? = some x := fun x => List.getElem?_set_self (List.getElem?_eq_some_iff.mp e2).1
  have e3 : k + 1 + 1 = k + 2 := by omega
  have e4 : k + 2 + 1 = k + 3 := by omega
  have k1 : 0 ≤ k + 1 := by omega
  have k2 : 0 ≤ k + 2 := by omega
  simp -implicitDefEqProofs [g__law_printer, e2, F_law_take, h0, ha, hn, e3, e4, k1, k2, OutS, prV]
  exact cut_set (c := .lst [.int (k + 3)]) trivial
theorem ok_law_printer {P : Program} {w : World} {K : PySem.W.Frag} {mg : Str → Option Value} {base : Heap} (d : DefOk K mg "_law_printer" "_law_printer" "_law_printer" (top 25)) (h__law_take : FnS P w K mg base 2 "_law_take" 3 F_law_take) : FnS P w K mg base 3 "_law_printer" 2 F_law_printer :=
  okS d sc__law_printer rfl (fun _ _ _ _ _ _ us hl => match us, hl with | [_, _], _ => rfl) (sb__law_printer h__law_take) eq_law_printer
end DL
set_option maxHeartbeats 4000000
namespace DL
open PySem PySem.Spec PyProof.Rows L2
/-! ### _law_so -/
abbrev nm__law_so : List Str := ["found", "meant", "k"]
abbrev ps__law_so : List Str := ["found", "meant"]
theorem sc__law_so : FnScope nm__law_so ps__law_so (defScope (top 19)) := ⟨rfl, rfl, rfl, by decide +kernel, rfl, by decide +kernel, by decide +kernel⟩
theorem nd__law_so : nm__law_so.Nodup := sc__law_so.nd
noncomputable def lp1__law_so (F : List D → R0) : Env → Mu → RS :=
  zIf (xNotT (xTst (xCallP 2 F (xCons (xBin oIx (xVar 0) (xVar 2)) (xCons (xBin oIx (xVar 1) (xVar 2)) (xNil)))))) (zRet (xC (.bl false))) (zNil)
noncomputable def g__law_so (F : List D → R0) : Env → Mu → RS :=
  zSeq (zIf (xTst (xBin oIsN (xVar 1) (xC .non))) (zRet (xBin oIsN (xVar 0) (xC .non))) (zNil))
  (zSeq (zIf (xTst (xCB (oIs OWN) (xCons (xVar 1) (xCons (xC (.ty "tuple")) (xNil))))) (zSeq (zIf (xOrT (xNotT (xTst (xCB (oIs OWN) (xCons (xVar 0) (xCons (xC (.ty "tuple")) (xNil)))))) (xTst (xBin oNe (xCB oLen (xCons (xVar 0) (xNil))) (xCB oLen (xCons (xVar 1) (xNil)))))) (zRet (xC (.bl false))) (zNil))
  (zSeq (zFor (iRng iRg1 (xCons (xCB oLen (xCons (xVar 1) (xNil))) (xNil))) (gN 2) (lp1__law_so F))
  (zRet (xC (.bl true))))) (zNil))
  (zSeq (zIf (xOrT (xTst (xCB (oIs OWN) (xCons (xVar 1) (xCons (xC (.ty "bool")) (xNil))))) (xTst (xCB (oIs OWN) (xCons (xVar 0) (xCons (xC (.ty "bool")) (xNil)))))) (zRet (xAnd (xCB (oIs OWN) (xCons (xVar 1) (xCons (xC (.ty "bool")) (xNil)))) (xAnd (xCB (oIs OWN) (xCons (xVar 0) (xCons (xC (.ty "bool")) (xNil)))) (xBin oEq (xVar 0) (xVar 1))))) (zNil))
  (zSeq (zIf (xTst (xCB (oIs OWN) (xCons (xVar 1) (xCons (xC (.ty "int")) (xNil))))) (zRet (xAnd (xCB (oIs OWN) (xCons (xVar 0) (xCons (xC (.ty "int")) (xNil)))) (xBin oEq (xVar 0) (xVar 1)))) (zNil))
  (zRet (xAnd (xCB (oIs OWN) (xCons (xVar 1) (xCons (xC (.ty "str")) (xNil)))) (xAnd (xCB (oIs OWN) (xCons (xVar 0) (xCons (xC (.ty "str")) (xNil)))) (xBin oEq (xVar 0) (xVar 1))))))))
theorem sb__law_so {P : Program} {w : World} {K : PySem.W.Frag} {mg : Str → Option Value} {base : Heap} {n : Nat} {F : List D → R0} (m_tuple : mg "tuple" = none) (m_isinstance : mg "isinstance" = none) (kI : IsiK K OWN) (m_len : mg "len" = none) (m_range : mg "range" = none) (h_self : FnP P w K mg base (1 + n) "_law_so" 2 F) (m_bool : mg "bool" = none) (m_int : mg "int" = none) (m_str : mg "str" = none) : ∀ (f : Addr) cd A outer s H E, Cok (cxD P w K mg base nm__law_so "_law_so" (defScope (top 19)) f cd A outer s H E) (fun c d _ H => E c d H) (1 + n) → SB (cxD P w K mg base nm__law_so "_law_so" (defScope (top 19)) f cd A outer s H E) (fun c d _ H => E c d H) (defBody (top 19)) (g__law_so F) := fun f cd A outer s H E C =>
  (sb_cons (ss_if (st_cmp os_isN (se_var 1 rfl (.inl rfl)) se_non (nomark _)) (sb_one (ss_ret (se_cmp os_isN (se_var 0 rfl (.inl rfl)) se_non (nomark _)))) sb_nil)
  (sb_cons (ss_if (st_val (se_cb (cs_is kI) rfl m_isinstance (by decide +kernel) (sa_cons (se_var 1 rfl (.inl rfl)) (sa_cons (se_tyN rfl m_tuple (by decide +kernel)) sa_nil)))) (sb_cons (ss_if (sw_st (sw_or (st_not (st_val (se_cb (cs_is kI) rfl m_isinstance (by decide +kernel) (sa_cons (se_var 0 rfl (.inl rfl)) (sa_cons (se_tyN rfl m_tuple (by decide +kernel)) sa_nil))))) (sw_or1 (st_cmp (os_ne C.hr.units) (se_cb cs_len rfl m_len (by decide +kernel) (sa_cons (se_var 0 rfl (.inl rfl)) sa_nil)) (se_cb cs_len rfl m_len (by decide +kernel) (sa_cons (se_var 1 rfl (.inl rfl)) sa_nil)) (nomark _))))) (sb_one (ss_ret se_bl)) sb_nil)
  (sb_cons (ss_for C.po C.calm (si_range1 rfl m_range (sa_cons (se_cb cs_len rfl m_len (by decide +kernel) (sa_cons (se_var 1 rfl (.inl rfl)) sa_nil)) sa_nil)) (sg_name (i := 2) nd__law_so rfl (.inl rfl)) (sb_one (ss_if (st_not (st_val (se_callP h_self C.hr C.tk rfl (sa_cons (se_ix (se_var 0 rfl (.inl rfl)) (se_var 2 rfl (.inl rfl)) (fun _ _ => rfl)) (sa_cons (se_ix (se_var 1 rfl (.inl rfl)) (se_var 2 rfl (.inl rfl)) (fun _ _ => rfl)) sa_nil))))) (sb_one (ss_ret se_bl)) sb_nil)))
  (sb_one (ss_ret se_bl)))) sb_nil)
  (sb_cons (ss_if (sw_st (sw_or (st_val (se_cb (cs_is kI) rfl m_isinstance (by decide +kernel) (sa_cons (se_var 1 rfl (.inl rfl)) (sa_cons (se_tyN rfl m_bool (by decide +kernel)) sa_nil)))) (sw_or1 (st_val (se_cb (cs_is kI) rfl m_isinstance (by decide +kernel) (sa_cons (se_var 0 rfl (.inl rfl)) (sa_cons (se_tyN rfl m_bool (by decide +kernel)) sa_nil))))))) (sb_one (ss_ret (se_and (se_cb (cs_is kI) rfl m_isinstance (by decide +kernel) (sa_cons (se_var 1 rfl (.inl rfl)) (sa_cons (se_tyN rfl m_bool (by decide +kernel)) sa_nil))) (se_and (se_cb (cs_is kI) rfl m_isinstance (by decide +kernel) (sa_cons (se_var 0 rfl (.inl rfl)) (sa_cons (se_tyN rfl m_bool (by decide +kernel)) sa_nil))) (se_one (se_cmp (os_eq C.hr.units) (se_var 0 rfl (.inl rfl)) (se_var 1 rfl (.inl rfl)) (nomark _))))))) sb_nil)
  (sb_cons (ss_if (st_val (se_cb (cs_is kI) rfl m_isinstance (by decide +kernel) (sa_cons (se_var 1 rfl (.inl rfl)) (sa_cons (se_tyN rfl m_int (by decide +kernel)) sa_nil)))) (sb_one (ss_ret (se_and (se_cb (cs_is kI) rfl m_isinstance (by decide +kernel) (sa_cons (se_var 0 rfl (.inl rfl)) (sa_cons (se_tyN rfl m_int (by decide +kernel)) sa_nil))) (se_one (se_cmp (os_eq C.hr.units) (se_var 0 rfl (.inl rfl)) (se_var 1 rfl (.inl rfl)) (nomark _)))))) sb_nil)
  (sb_one (ss_ret (se_and (se_cb (cs_is kI) rfl m_isinstance (by decide +kernel) (sa_cons (se_var 1 rfl (.inl rfl)) (sa_cons (se_tyN rfl m_str (by decide +kernel)) sa_nil))) (se_and (se_cb (cs_is kI) rfl m_isinstance (by decide +kernel) (sa_cons (se_var 0 rfl (.inl rfl)) (sa_cons (se_tyN rfl m_str (by decide +kernel)) sa_nil))) (se_one (se_cmp (os_eq C.hr.units) (se_var 0 rfl (.inl rfl)) (se_var 1 rfl (.inl rfl)) (nomark _)))))))))))
-- kind: P
-- rec: 1
-- depth: 6
open Classical in
noncomputable def soF (n : Nat) : List D → R0 := fun ds => match ds with
  | [a, b] => if a = b ∧ soD n b = true then .ok (.bl true) else .stuck
  | _ => .stuck
noncomputable def F_law_so : Nat → List D → R0
  | 0 => fun _ => .stuck
  | n + 1 => soF (n + 1)
theorem F_law_so_at {n : Nat} {d : D} (h : soD n d = true) : F_law_so n [d, d] = .ok (.bl true) := by
  cases n with
  | zero => cases d <;> simp_all [soD]
  | succ n =>
    show soF (n + 1) [d, d] = _
    unfold soF
    simp -implicitDefEqProofs [h]
theorem eq_law_so (n : Nat) : ∀ ds, ds.length = 2 → F_law_so (n + 1) ds ≠ .stuck → outP (g__law_so (F_law_so n) (startD 3 (ds.map .d)) []) = F_law_so (n + 1) ds := by
  intro ds hl h
  change soF (n + 1) ds ≠ _ at h
  show _ = soF (n + 1) ds
  unfold soF at h ⊢
  split at h <;> try exact absurd rfl h
  rename_i a b
  split at h <;> try exact absurd rfl h
  rename_i hd
  rw [if_pos hd]
  obtain ⟨rfl, hd⟩ := hd
  cases a with
  | tup xs =>
    simp -implicitDefEqProofs only [soD, Bool.and_eq_true, decide_eq_true_eq] at hd
    obtain ⟨hz, hx⟩ := hd
    have lp : ∃ e m, dFor (gN 2) (lp1__law_so (F_law_so n)) (rngD 0 xs.length) [some (.d (.tup xs)), some (.d (.tup xs)), none] [] = .nx e m := by
      refine dFor_rule (fun r => ∃ e m, r = .nx e m) (fun j e m => m = [] ∧ ∃ a, e = [some (.d (.tup xs)), some (.d (.tup xs)), a]) ⟨rfl, none, rfl⟩ ?_ (fun e m _ => ⟨e, m, rfl⟩)
      rintro j y e m hy ⟨rfl, a, rfl⟩
      obtain ⟨hj, rfl⟩ := rngD_get hy
      have hat := atI_nat hj
      have hc := F_law_so_at (soDs_at hx xs[j] (List.getElem_mem hj))
      simp -implicitDefEqProofs [lp1__law_so, hat, hc]
    obtain ⟨e, m, lp⟩ := lp
    have hz2 : (xs.length : Int) ≤ 16777216 := by omega
    have hz3 : (xs.length : Int) < 4611686018427387904 := by omega
    simp -implicitDefEqProofs [g__law_so, lp, hz, hz2, hz3]
  | non => simp -implicitDefEqProofs [g__law_so]
  | bl b => simp -implicitDefEqProofs [g__law_so]
  | int b => simp -implicitDefEqProofs [g__law_so]
  | str b =>
    simp -implicitDefEqProofs only [soD] at hd
    simp -implicitDefEqProofs [g__law_so, hd]
  | _ => simp -implicitDefEqProofs [soD] at hd
theorem okr_law_so {P : Program} {w : World} {K : PySem.W.Frag} {mg : Str → Option Value} {base : Heap} (d : DefOk K mg "_law_so" "_law_so" "_law_so" (top 19)) (m_tuple : mg "tuple" = none) (m_isinstance : mg "isinstance" = none) (kI : IsiK K OWN) (m_len : mg "len" = none) (m_range : mg "range" = none) (m_bool : mg "bool" = none) (m_int : mg "int" = none) (m_str : mg "str" = none) : ∀ n, FnP P w K mg base (1 + n) "_law_so" 2 (F_law_so n)
  | 0 => okP0 d sc__law_so rfl (fun _ _ _ _ _ _ us hl => match us, hl with | [_, _], _ => rfl)
  | n + 1 => by
    have ih := okr_law_so (P := P) (w := w) (base := base) d m_tuple m_isinstance kI m_len m_range m_bool m_int m_str n
    exact okP (k := 1 + n) d sc__law_so rfl (fun _ _ _ _ _ _ us hl => match us, hl with | [_, _], _ => rfl) (sb__law_so m_tuple m_isinstance kI m_len m_range ih m_bool m_int m_str) (eq_law_so n)
end DL
set_option maxHeartbeats 4000000
namespace DL
open PySem PySem.Spec PyProof.Rows L2
/-! ### _law_loose -/
abbrev nm__law_loose : List Str := ["value", "turn", "made", "one"]
abbrev ps__law_loose : List Str := ["value", "turn"]
theorem sc__law_loose : FnScope nm__law_loose ps__law_loose (defScope (top 23)) := ⟨rfl, rfl, rfl, by decide +kernel, rfl, by decide +kernel, by decide +kernel⟩
theorem nd__law_loose : nm__law_loose.Nodup := sc__law_loose.nd
noncomputable def g__law_loose (F : List D → R0) : Env → Mu → RS :=
  zSeq (zIf (xTst (xCB (oIs OWN) (xCons (xVar 0) (xCons (xC (.ty "tuple")) (xNil))))) (zSeq (zAsg (xFrz (xLc (iSeq (xVar 0)) [3] (tN 3) (pYes) (xCallP 2 F (xCons (xVar 3) (xCons (xBin oAdd (xVar 1) (xC (.int 1))) (xNil)))))) (gN 2))
  (zRet (xIf (xTst (xBin oEq (xBin oMod (xCB oInt (xCons (xVar 1) (xNil))) (xC (.int 2))) (xC (.int 0)))) (xVar 2) (xCB oTuple (xCons (xVar 2) (xNil)))))) (zNil))
  (zRet (xVar 0))
theorem sb__law_loose {P : Program} {w : World} {K : PySem.W.Frag} {mg : Str → Option Value} {base : Heap} {n : Nat} {F : List D → R0} (m_tuple : mg "tuple" = none) (m_isinstance : mg "isinstance" = none) (kI : IsiK K OWN) (h_self : FnP P w K mg base (1 + n) "_law_loose" 2 F) (m_int : mg "int" = none) : ∀ (f : Addr) cd A outer s H E, Cok (cxD P w K mg base nm__law_loose "_law_loose" (defScope (top 23)) f cd A outer s H E) (fun c d _ H => E c d H) (1 + n) → SB (cxD P w K mg base nm__law_loose "_law_loose" (defScope (top 23)) f cd A outer s H E) (fun c d _ H => E c d H) (defBody (top 23)) (g__law_loose F) := fun f cd A outer s H E C =>
  (sb_cons (ss_if (st_val (se_cb (cs_is kI) rfl m_isinstance (by decide +kernel) (sa_cons (se_var 0 rfl (.inl rfl)) (sa_cons (se_tyN rfl m_tuple (by decide +kernel)) sa_nil)))) (sb_cons (ss_setLcF (j := 2) (i := 3) (own := [(("one" : Str), 3)]) C.calm nd__law_loose rfl rfl (sw_true rfl rfl rfl (by decide +kernel)) (si_seq (se_var 0 rfl (.inl rfl))) (blkOk_by (own := [(("one" : Str), 3)]) (N := nm__law_loose) (sc := defScope (top 23)) (by decide +kernel)) rfl (fun _ _ _ _ _ => pg_name (i := 3) nd__law_loose rfl (.inl rfl)) (fun _ _ _ _ _ => sts_nil) (fun _ _ _ _ _ => (se_callP h_self C.hr takesN0 rfl (sa_cons (se_var 3 rfl (.inl rfl)) (sa_cons (se_op os_add (se_var 1 rfl (.inr (.inl rfl))) se_int) sa_nil)))))
  (sb_one (ss_ret (se_if (st_cmp (os_eq C.hr.units) (se_op os_mod (se_ct cs_int rfl m_int (by decide +kernel) (sa_cons (se_var 1 rfl (.inr (.inl rfl))) sa_nil)) se_int) se_int (nomark _)) (se_var 2 rfl (.inl rfl)) (se_ct cs_tuple rfl m_tuple (by decide +kernel) (sa_cons (se_var 2 rfl (.inl rfl)) sa_nil)))))) sb_nil)
  (sb_one (ss_ret (se_var 0 rfl (.inl rfl)))))
-- kind: P
-- rec: 1
-- depth: 6
noncomputable def looseF (n : Nat) : List D → R0 := fun ds => match ds with
  | [a, .int t] => if soD n a = true then .ok (looseD t a) else .stuck
  | _ => .stuck
noncomputable def F_law_loose : Nat → List D → R0
  | 0 => fun _ => .stuck
  | n + 1 => looseF (n + 1)
theorem F_law_loose_at {n : Nat} {d : D} {t : Int} (h : soD n d = true) : F_law_loose n [d, .int t] = .ok (looseD t d) := by
  cases n with
  | zero => cases d <;> simp_all [soD]
  | succ n =>
    show looseF (n + 1) [d, .int t] = _
    unfold looseF
    simp -implicitDefEqProofs [h]
theorem eq_law_loose (n : Nat) : ∀ ds, ds.length = 2 → F_law_loose (n + 1) ds ≠ .stuck → outP (g__law_loose (F_law_loose n) (startD 4 (ds.map .d)) []) = F_law_loose (n + 1) ds := by
  intro ds hl h
  change looseF (n + 1) ds ≠ _ at h
  show _ = looseF (n + 1) ds
  unfold looseF at h ⊢
  split at h <;> try exact absurd rfl h
  rename_i a t
  split at h <;> try exact absurd rfl h
  rename_i hd
  rw [if_pos hd]
  cases a with
  | tup xs =>
    simp -implicitDefEqProofs only [soD, Bool.and_eq_true, decide_eq_true_eq] at hd
    obtain ⟨hz, hx⟩ := hd
    have lp := dLc_mapD (tt := tN 3) (f := xCallP 2 (F_law_loose n) (xCons (xVar 3) (xCons (xBin oAdd (xVar 1) (xC (.int 1))) xNil))) (et := wipeD [some (.d (.tup xs)), some (.d (.int t)), none, none] [3]) (looseD (t + 1)) [] xs [] (fun x hm => by
      simp -implicitDefEqProofs [F_law_loose_at (soDs_at hx x hm)]) (by simpa using hz)
    simp -implicitDefEqProofs at lp
    have hz2 : (xs.length : Int) ≤ 16777216 := by omega
    by_cases ht : t.fmod 2 = 0
    · simp -implicitDefEqProofs [g__law_loose, lp, hz, looseD, looseDs_map, ht]
    · simp -implicitDefEqProofs [g__law_loose, lp, hz, looseD, looseDs_map, ht]
  | lst xs => simp -implicitDefEqProofs [soD] at hd
  | obj c fs => simp -implicitDefEqProofs [soD] at hd
  | dct c => simp -implicitDefEqProofs [soD] at hd
  | scr c => simp -implicitDefEqProofs [soD] at hd
  | ty c => simp -implicitDefEqProofs [soD] at hd
  | cls c => simp -implicitDefEqProofs [soD] at hd
  | exn a b c d => simp -implicitDefEqProofs [soD] at hd
  | dtn a b => simp -implicitDefEqProofs [soD] at hd
  | _ => simp -implicitDefEqProofs [g__law_loose, looseD]
theorem okr_law_loose {P : Program} {w : World} {K : PySem.W.Frag} {mg : Str → Option Value} {base : Heap} (d : DefOk K mg "_law_loose" "_law_loose" "_law_loose" (top 23)) (m_tuple : mg "tuple" = none) (m_isinstance : mg "isinstance" = none) (kI : IsiK K OWN) (m_int : mg "int" = none) : ∀ n, FnP P w K mg base (1 + n) "_law_loose" 2 (F_law_loose n)
  | 0 => okP0 d sc__law_loose rfl (fun _ _ _ _ _ _ us hl => match us, hl with | [_, _], _ => rfl)
  | n + 1 => by
    have ih := okr_law_loose (P := P) (w := w) (base := base) d m_tuple m_isinstance kI m_int n
    exact okP (k := 1 + n) d sc__law_loose rfl (fun _ _ _ _ _ _ us hl => match us, hl with | [_, _], _ => rfl) (sb__law_loose m_tuple m_isinstance kI ih m_int) (eq_law_loose n)
end DL
set_option maxHeartbeats 4000000
namespace DL
open PySem PySem.Spec PyProof.Rows L2
/-! ### _law_shift -/
abbrev nm__law_shift : List Str := ["lines", "at", "more", "made", "one"]
abbrev ps__law_shift : List Str := ["lines", "at", "more"]
theorem sc__law_shift : FnScope nm__law_shift ps__law_shift (defScope (top 26)) := ⟨rfl, rfl, rfl, by decide +kernel, rfl, by decide +kernel, by decide +kernel⟩
theorem nd__law_shift : nm__law_shift.Nodup := sc__law_shift.nd
noncomputable def lp1__law_shift : Env → Mu → RS :=
  zSeq (zIf (xTst (xBin oEq (xBin oIx (xVar 4) (xC (.int 0))) (xC (.str "go")))) (zAsg (xTup (xCons (xC (.str "go")) (xCons (xIf (xTst (xBin oGe (xBin oIx (xVar 4) (xC (.int 1))) (xVar 1))) (xBin oAdd (xBin oIx (xVar 4) (xC (.int 1))) (xVar 2)) (xBin oIx (xVar 4) (xC (.int 1)))) (xNil)))) (gN 4)) (zNil))
  (zSeq (zIf (xTst (xBin oEq (xBin oIx (xVar 4) (xC (.int 0))) (xC (.str "if")))) (zAsg (xTup (xCons (xC (.str "if")) (xCons (xBin oIx (xVar 4) (xC (.int 1))) (xCons (xIf (xTst (xBin oGe (xBin oIx (xVar 4) (xC (.int 2))) (xVar 1))) (xBin oAdd (xBin oIx (xVar 4) (xC (.int 2))) (xVar 2)) (xBin oIx (xVar 4) (xC (.int 2)))) (xNil))))) (gN 4)) (zNil))
  (zExpr (xBM isL oAppend (xVar 3) (xCons (xVar 4) (xNil)))))
noncomputable def g__law_shift : Env → Mu → RS :=
  zSeq (zAsg (xCel (xLst (xNil))) (gN 3))
  (zSeq (zFor (iSeq (xVar 0)) (gN 4) lp1__law_shift)
  (zRet (xVar 3)))
theorem sb__law_shift {P : Program} {w : World} {K : PySem.W.Frag} {mg : Str → Option Value} {base : Heap} : ∀ (f : Addr) cd A outer s H E, Cok (cxD P w K mg base nm__law_shift "_law_shift" (defScope (top 26)) f cd A outer s H E) (fun c d _ H => E c d H) 0 → SB (cxD P w K mg base nm__law_shift "_law_shift" (defScope (top 26)) f cd A outer s H E) (fun c d _ H => E c d H) (defBody (top 26)) g__law_shift := fun f cd A outer s H E C =>
  (sb_cons (ss_set (i := 3) nd__law_shift rfl (.inl rfl) (sf_cel (sf_lst sa_nil)))
  (sb_cons (ss_for C.po C.calm (si_seq (se_var 0 rfl (.inl rfl))) (sg_name (i := 4) nd__law_shift rfl (.inl rfl)) (sb_cons (ss_if (st_cmp (os_eq C.hr.units) (se_ix (se_var 4 rfl (.inl rfl)) se_int (fun _ _ => rfl)) se_str (nomark _)) (sb_one (ss_set (i := 4) nd__law_shift rfl (.inl rfl) (se_tup (sa_cons se_str (sa_cons (se_if (st_cmp os_ge (se_ix (se_var 4 rfl (.inl rfl)) se_int (fun _ _ => rfl)) (se_var 1 rfl (.inl rfl)) (nomark _)) (se_op os_add (se_ix (se_var 4 rfl (.inl rfl)) se_int (fun _ _ => rfl)) (se_var 2 rfl (.inl rfl))) (se_ix (se_var 4 rfl (.inl rfl)) se_int (fun _ _ => rfl))) sa_nil))))) sb_nil)
  (sb_cons (ss_if (st_cmp (os_eq C.hr.units) (se_ix (se_var 4 rfl (.inl rfl)) se_int (fun _ _ => rfl)) se_str (nomark _)) (sb_one (ss_set (i := 4) nd__law_shift rfl (.inl rfl) (se_tup (sa_cons se_str (sa_cons (se_ix (se_var 4 rfl (.inl rfl)) se_int (fun _ _ => rfl)) (sa_cons (se_if (st_cmp os_ge (se_ix (se_var 4 rfl (.inl rfl)) se_int (fun _ _ => rfl)) (se_var 1 rfl (.inl rfl)) (nomark _)) (se_op os_add (se_ix (se_var 4 rfl (.inl rfl)) se_int (fun _ _ => rfl)) (se_var 2 rfl (.inl rfl))) (se_ix (se_var 4 rfl (.inl rfl)) se_int (fun _ _ => rfl))) sa_nil)))))) sb_nil)
  (sb_one (ss_expr (se_append (se_var 3 rfl (.inl rfl)) (sa_cons (se_var 4 rfl (.inl rfl)) sa_nil)))))))
  (sb_one (ss_ret (se_var 3 rfl (.inl rfl))))))
-- kind: S
-- lists: lines
open Classical in
noncomputable def F_law_shift : List Va → Mu → R Va := fun as m => match as with
  | [.d x, .d (.int a), .d (.int b)] => (match dec lnsL x with
    | some ls => if ls.length ≤ 100 then .ok (.l m.length) (m ++ [some (.lst ((ls.map (Ln.mv a b)).map Ln.d))]) else .stuck
    | none => .stuck)
  | _ => .stuck
theorem shift_turn (x : D) (a b : Int) (m : Mu) (l : Ln) (acc : List Ln) (u : Option Va) (hz : acc.length < 16777216) :
    ((gN 4 (.d l.d) [some (.d x), some (.d (.int a)), some (.d (.int b)), some (.l m.length), u] (m ++ [some (.lst (acc.map Ln.d))])).stored lp1__law_shift) = .nx [some (.d x), some (.d (.int a)), some (.d (.int b)), some (.l m.length), some (.d (l.mv a b).d)] (m ++ [some (.lst ((acc ++ [l.mv a b]).map Ln.d))]) := by
  cases l with
  | go t => by_cases h : a ≤ t <;> simp -implicitDefEqProofs [lp1__law_shift, Ln.mv, h, hz]
  | done t => by_cases h : a ≤ t <;> simp -implicitDefEqProofs [lp1__law_shift, Ln.mv, h, hz]
  | ok t => by_cases h : a ≤ t <;> simp -implicitDefEqProofs [lp1__law_shift, Ln.mv, h, hz]
  | _ => simp -implicitDefEqProofs [lp1__law_shift, Ln.mv, hz]
theorem eq_law_shift : ∀ as m, as.length = 3 → F_law_shift as m ≠ .stuck → OutS m (g__law_shift (startD 5 as) m) (F_law_shift as m) := by
  intro as m hl3 h
  unfold F_law_shift at h ⊢
  split at h <;> try exact absurd rfl h
  rename_i x a b
  split at h <;> try exact absurd rfl h
  rename_i ls e
  have e2 := dec_some e
  subst e2
  split at h <;> try exact absurd rfl h
  rename_i hz
  rw [if_pos hz]
  have lp : ∀ (x : D) (ls : List Ln) (acc : List Ln) (u : Option Va), acc.length + ls.length ≤ 100 → ∃ u', dFor (gN 4) lp1__law_shift ((ls.map Ln.d).map .d) [some (.d x), some (.d (.int a)), some (.d (.int b)), some (.l m.length), u] (m ++ [some (.lst (acc.map Ln.d))]) = .nx [some (.d x), some (.d (.int a)), some (.d (.int b)), some (.l m.length), u'] (m ++ [some (.lst ((acc ++ ls.map (Ln.mv a b)).map Ln.d))]) := by
    intro x ls
    induction ls with
    | nil => intro acc u _; exact ⟨u, by simp⟩
    | cons l ls ih =>
      intro acc u hz
      obtain ⟨u', ih⟩ := ih (acc ++ [l.mv a b]) (some (.d (l.mv a b).d)) (by simp -implicitDefEqProofs at hz ⊢; omega)
      refine ⟨u', ?_⟩
      rw [List.map_cons, List.map_cons, dFor_turn, shift_turn x a b m l acc u (by simp -implicitDefEqProofs at hz; omega), RS.loop_nx, ih]
      simp -implicitDefEqProofs
  obtain ⟨u', lp⟩ := lp (lnsL ls) ls [] none (by simpa using hz)
  have hr : g__law_shift (startD 5 [.d (lnsL ls), .d (.int a), .d (.int b)]) m = .ret (.l m.length) [some (.d (lnsL ls)), some (.d (.int a)), some (.d (.int b)), some (.l m.length), u'] (m ++ [some (.lst ((ls.map (Ln.mv a b)).map Ln.d))]) := by
    simp -implicitDefEqProofs at lp
    simp -implicitDefEqProofs [g__law_shift, lp]
  rw [hr]
  exact ⟨rfl, m, .lst _, rfl, ⟨rfl, List.prefix_append _ _, fun _ _ e => .inl e⟩, Nat.le_refl _, by simp, trivial⟩
theorem ok_law_shift {P : Program} {w : World} {K : PySem.W.Frag} {mg : Str → Option Value} {base : Heap} (d : DefOk K mg "_law_shift" "_law_shift" "_law_shift" (top 26)) : FnS P w K mg base 1 "_law_shift" 3 F_law_shift :=
  okS d sc__law_shift rfl (fun _ _ _ _ _ _ us hl => match us, hl with | [_, _, _], _ => rfl) (sb__law_shift) eq_law_shift
end DL
set_option maxHeartbeats 4000000
namespace DL
open PySem PySem.Spec PyProof.Rows L2
/-! ### _law_line -/
abbrev nm__law_line : List Str := ["row", "spot", "many", "counts", "words", "word"]
abbrev ps__law_line : List Str := ["row", "spot", "many", "counts"]
theorem sc__law_line : FnScope nm__law_line ps__law_line (defScope (top 27)) := ⟨rfl, rfl, rfl, by decide +kernel, rfl, by decide +kernel, by decide +kernel⟩
theorem nd__law_line : nm__law_line.Nodup := sc__law_line.nd
noncomputable def g__law_line : Env → Mu → RS :=
  zSeq (zAsg (xFrz (xLst (xCons (xC (.str "recall")) (xCons (xC (.str "note")) (xCons (xC (.str "add")) (xCons (xC (.str "send")) (xCons (xC (.str "wait")) (xCons (xC (.str "end")) (xCons (xC (.str "go")) (xCons (xC (.str "if")) (xCons (xC (.str "if")) (xCons (xC (.str "count")) (xNil))))))))))))) (gN 4))
  (zSeq (zAsg (xBin oIx (xVar 4) (xCallS 3 F_law_take (xCons (xVar 0) (xCons (xVar 1) (xCons (xIf (xTst (xVar 3)) (xC (.int 10)) (xC (.int 9))) (xNil)))))) (gN 5))
  (zSeq (zIf (xTst (xBin oEq (xVar 5) (xC (.str "go")))) (zRet (xTup (xCons (xC (.str "go")) (xCons (xCallS 3 F_law_take (xCons (xVar 0) (xCons (xVar 1) (xCons (xVar 2) (xNil))))) (xNil))))) (zNil))
  (zSeq (zIf (xTst (xBin oEq (xVar 5) (xC (.str "if")))) (zRet (xTup (xCons (xC (.str "if")) (xCons (xBin oIx (xFrz (xLst (xCons (xC (.str "done")) (xCons (xC (.str "ok")) (xNil))))) (xCallS 3 F_law_take (xCons (xVar 0) (xCons (xVar 1) (xCons (xC (.int 2)) (xNil)))))) (xCons (xCallS 3 F_law_take (xCons (xVar 0) (xCons (xVar 1) (xCons (xVar 2) (xNil))))) (xNil)))))) (zNil))
  (zRet (xTup (xCons (xVar 5) (xNil)))))))
theorem sb__law_line {P : Program} {w : World} {K : PySem.W.Frag} {mg : Str → Option Value} {base : Heap} (h__law_take : FnS P w K mg base 2 "_law_take" 3 F_law_take) : ∀ (f : Addr) cd A outer s H E, Cok (cxD P w K mg base nm__law_line "_law_line" (defScope (top 27)) f cd A outer s H E) (fun c d _ H => E c d H) 2 → SB (cxD P w K mg base nm__law_line "_law_line" (defScope (top 27)) f cd A outer s H E) (fun c d _ H => E c d H) (defBody (top 27)) g__law_line := fun f cd A outer s H E C =>
  (sb_cons (ss_set (i := 4) nd__law_line rfl (.inl rfl) (sf_frz (sf_lst (sa_cons se_str (sa_cons se_str (sa_cons se_str (sa_cons se_str (sa_cons se_str (sa_cons se_str (sa_cons se_str (sa_cons se_str (sa_cons se_str (sa_cons se_str sa_nil)))))))))))))
  (sb_cons (ss_set (i := 5) nd__law_line rfl (.inl rfl) (se_ix (se_var 4 rfl (.inl rfl)) (se_callS h__law_take (C.hr.mono (by first | decide | omega)) C.tk rfl (sa_cons (se_var 0 rfl (.inl rfl)) (sa_cons (se_var 1 rfl (.inl rfl)) (sa_cons (se_if (st_val (se_var 3 rfl (.inl rfl))) se_int se_int) sa_nil)))) (fun _ _ => rfl)))
  (sb_cons (ss_if (st_cmp (os_eq C.hr.units) (se_var 5 rfl (.inl rfl)) se_str (nomark _)) (sb_one (ss_ret (se_tup (sa_cons se_str (sa_cons (se_callS h__law_take (C.hr.mono (by first | decide | omega)) C.tk rfl (sa_cons (se_var 0 rfl (.inl rfl)) (sa_cons (se_var 1 rfl (.inl rfl)) (sa_cons (se_var 2 rfl (.inl rfl)) sa_nil)))) sa_nil))))) sb_nil)
  (sb_cons (ss_if (st_cmp (os_eq C.hr.units) (se_var 5 rfl (.inl rfl)) se_str (nomark _)) (sb_one (ss_ret (se_tup (sa_cons se_str (sa_cons (se_ix (sf_frz (sf_lst (sa_cons se_str (sa_cons se_str sa_nil)))) (se_callS h__law_take (C.hr.mono (by first | decide | omega)) C.tk rfl (sa_cons (se_var 0 rfl (.inl rfl)) (sa_cons (se_var 1 rfl (.inl rfl)) (sa_cons se_int sa_nil)))) (fun _ _ => rfl)) (sa_cons (se_callS h__law_take (C.hr.mono (by first | decide | omega)) C.tk rfl (sa_cons (se_var 0 rfl (.inl rfl)) (sa_cons (se_var 1 rfl (.inl rfl)) (sa_cons (se_var 2 rfl (.inl rfl)) sa_nil)))) sa_nil)))))) sb_nil)
  (sb_one (ss_ret (se_tup (sa_cons (se_var 5 rfl (.inl rfl)) sa_nil))))))))
-- kind: S
noncomputable def lnV (ns : List Int) (k many : Int) (c : Bool) : Ln × Int :=
  let w := drawV ns k (if c = true then 10 else 9)
  if w = 0 then (.recall, k + 1) else if w = 1 then (.note, k + 1) else if w = 2 then (.add, k + 1) else if w = 3 then (.send, k + 1) else if w = 4 then (.wait, k + 1) else if w = 5 then (.end_, k + 1) else
  if w = 6 then (.go (drawV ns (k + 1) many), k + 2) else if w = 9 then (.count, k + 1) else
  ((if drawV ns (k + 1) 2 = 0 then .done (drawV ns (k + 2) many) else .ok (drawV ns (k + 2) many)), k + 3)
noncomputable def F_law_line : List Va → Mu → R Va := fun as m => match as with
  | [.d (.lst r), .l n, .d (.int many), .d (.bl c)] => (match intsOf r, m[n]? with
    | some ns, some (some (.lst [.int k])) => if ns ≠ [] ∧ 0 ≤ k ∧ 0 < many then .ok (.d (lnV ns k many c).1.d) (m.set n (some (.lst [.int (lnV ns k many c).2]))) else .stuck
    | _, _ => .stuck)
  | _ => .stuck
theorem eq_law_line : ∀ as m, as.length = 4 → F_law_line as m ≠ .stuck → OutS m (g__law_line (startD 6 as) m) (F_law_line as m) := by
  intro as m hl3 h
  unfold F_law_line at h ⊢
  split at h <;> try exact absurd rfl h
  rename_i r n many c
  split at h <;> try exact absurd rfl h
  rename_i ns k e1 e2
  have er := intsOf_eq e1
  subst er
  split at h <;> try exact absurd rfl h
  rename_i hc
  rw [if_pos hc]
  obtain ⟨h0, ha, hl⟩ := hc
  have hn : ∀ x, (m.set n x)[n]? = some x := fun x => List.getElem?_set_self (List.getElem?_eq_some_iff.mp e2).1
  have e3 : k + 1 + 1 = k + 2 := by omega
  have e4 : k + 2 + 1 = k + 3 := by omega
  have k1 : 0 ≤ k + 1 := by omega
  have k2 : 0 ≤ k + 2 := by omega
  have d1 := drawV_lo (ns := ns) (a := k) (lim := if c = true then 10 else 9) (by cases c <;> simp -implicitDefEqProofs)
  have d2 := drawV_hi (ns := ns) (a := k) (lim := if c = true then 10 else 9) (by cases c <;> simp -implicitDefEqProofs)
  have q1 := drawV_lo (ns := ns) (a := k + 1) (lim := 2) (by decide)
  have q2 := drawV_hi (ns := ns) (a := k + 1) (lim := 2) (by decide)
  have hq : drawV ns (k + 1) 2 = 0 ∨ drawV ns (k + 1) 2 = 1 := by omega
  generalize hw : drawV ns k (if c = true then 10 else 9) = w at d1 d2
  have hw2 : w = 0 ∨ w = 1 ∨ w = 2 ∨ w = 3 ∨ w = 4 ∨ w = 5 ∨ w = 6 ∨ w = 7 ∨ w = 8 ∨ (w = 9 ∧ c = true) := by
    cases c
    · simp -implicitDefEqProofs at d2 ⊢; omega
    · simp -implicitDefEqProofs at d2 ⊢; omega
  rcases hw2 with rfl | rfl | rfl | rfl | rfl | rfl | rfl | rfl | rfl | ⟨rfl, rfl⟩
  case inr.inr.inr.inr.inr.inr.inr.inl => rcases hq with hq | hq <;> cases c <;> simp -implicitDefEqProofs at hw <;> simp -implicitDefEqProofs [g__law_line, lnV, e2, F_law_take, h0, ha, hl, hn, e3, e4, k1, k2, hw, hq, OutS] <;> exact cut_set (c := .lst [.int (k + 3)]) trivial
  case inr.inr.inr.inr.inr.inr.inr.inr.inl => rcases hq with hq | hq <;> cases c <;> simp -implicitDefEqProofs at hw <;> simp -implicitDefEqProofs [g__law_line, lnV, e2, F_law_take, h0, ha, hl, hn, e3, e4, k1, k2, hw, hq, OutS] <;> exact cut_set (c := .lst [.int (k + 3)]) trivial
  case inr.inr.inr.inr.inr.inr.inl => cases c <;> simp -implicitDefEqProofs at hw <;> simp -implicitDefEqProofs [g__law_line, lnV, e2, F_law_take, h0, ha, hl, hn, e3, e4, k1, k2, hw, OutS] <;> exact cut_set (c := .lst [.int (k + 2)]) trivial
  case inr.inr.inr.inr.inr.inr.inr.inr.inr => simp -implicitDefEqProofs at hw; simp -implicitDefEqProofs [g__law_line, lnV, e2, F_law_take, h0, ha, hl, hn, e3, e4, k1, k2, hw, OutS]; exact cut_set (c := .lst [.int (k + 1)]) trivial
  all_goals
    cases c <;> simp -implicitDefEqProofs at hw <;> simp -implicitDefEqProofs [g__law_line, lnV, e2, F_law_take, h0, ha, hl, hn, e3, e4, k1, k2, hw, OutS] <;> exact cut_set (c := .lst [.int (k + 1)]) trivial
theorem lnV_fit {ns : List Int} {k many : Int} {c : Bool} (h : 0 < many) : (lnV ns k many c).1.fit many = true := by
  have a1 := drawV_lo (ns := ns) (a := k + 1) h
  have a2 := drawV_hi (ns := ns) (a := k + 1) h
  have b1 := drawV_lo (ns := ns) (a := k + 2) h
  have b2 := drawV_hi (ns := ns) (a := k + 2) h
  unfold lnV
  dsimp only
  repeat' split
  all_goals simp_all
theorem lnV_count {ns : List Int} {k many : Int} {c : Bool} (h : (lnV ns k many c).1 = .count) : c = true := by
  cases c with
  | true => rfl
  | false =>
    have d2 := drawV_hi (ns := ns) (a := k) (lim := 9) (by decide)
    unfold lnV at h
    dsimp only at h
    simp -implicitDefEqProofs at h
    repeat' split at h
    all_goals simp_all
theorem lnV_k {ns : List Int} {k many : Int} {c : Bool} : k < (lnV ns k many c).2 := by
  unfold lnV
  dsimp only
  repeat' split
  all_goals simp -implicitDefEqProofs
  all_goals omega
theorem ok_law_line {P : Program} {w : World} {K : PySem.W.Frag} {mg : Str → Option Value} {base : Heap} (d : DefOk K mg "_law_line" "_law_line" "_law_line" (top 27)) (h__law_take : FnS P w K mg base 2 "_law_take" 3 F_law_take) : FnS P w K mg base 3 "_law_line" 4 F_law_line :=
  okS d sc__law_line rfl (fun _ _ _ _ _ _ us hl => match us, hl with | [_, _, _, _], _ => rfl) (sb__law_line h__law_take) eq_law_line
end DL
set_option maxHeartbeats 4000000
namespace DL
open PySem PySem.Spec PyProof.Rows L2
/-! ### _law_plan -/
abbrev nm__law_plan : List Str := ["row", "spot", "counts", "known", "style", "many", "k", "lines", "at", "way"]
abbrev ps__law_plan : List Str := ["row", "spot", "counts"]
theorem sc__law_plan : FnScope nm__law_plan ps__law_plan (defScope (top 28)) := ⟨rfl, rfl, rfl, by decide +kernel, rfl, by decide +kernel, by decide +kernel⟩
theorem nd__law_plan : nm__law_plan.Nodup := sc__law_plan.nd
noncomputable def lp1__law_plan : Env → Mu → RS :=
  zSeq (zAsg (xCallS 3 F_law_take (xCons (xVar 0) (xCons (xVar 1) (xCons (xBin oSub (xCB oLen (xCons (xVar 7) (xNil))) (xC (.int 1))) (xNil))))) (gN 8))
  (zSeq (zAsg (xCallS 3 F_law_take (xCons (xVar 0) (xCons (xVar 1) (xCons (xC (.int 3)) (xNil))))) (gN 9))
  (zIf (xTst (xBin oEq (xVar 9) (xC (.int 0)))) (zAsg (xCallS 4 F_law_line (xCons (xVar 0) (xCons (xVar 1) (xCons (xCB oLen (xCons (xVar 7) (xNil))) (xCons (xVar 2) (xNil)))))) (gSubL (xVar 7) (xVar 8))) (zIf (xAndT (xTst (xBin oEq (xVar 9) (xC (.int 1)))) (xTst (xBin oLt (xCB oLen (xCons (xVar 7) (xNil))) (xC (.int 15))))) (zSeq (zAsg (xCallS 3 F_law_shift (xCons (xMv (xVar 7)) (xCons (xVar 8) (xCons (xC (.int 1)) (xNil))))) (gN 7))
  (zAsg (xCel (xCat (xFrz (xCat (xFrz (xSlL (xVar 7) (xNoPart) (xPart (xVar 8)))) (xFrz (xLst (xCons (xCallS 4 F_law_line (xCons (xVar 0) (xCons (xVar 1) (xCons (xBin oAdd (xCB oLen (xCons (xVar 7) (xNil))) (xC (.int 1))) (xCons (xVar 2) (xNil)))))) (xNil)))))) (xFrz (xSlL (xVar 7) (xPart (xVar 8)) (xNoPart))))) (gN 7))) (zIf (xTst (xBin oGt (xCB oLen (xCons (xVar 7) (xNil))) (xC (.int 3)))) (zAsg (xCallS 3 F_law_shift (xCons (xFrz (xCat (xFrz (xSlL (xVar 7) (xNoPart) (xPart (xVar 8)))) (xFrz (xSlL (xVar 7) (xPart (xBin oAdd (xVar 8) (xC (.int 1)))) (xNoPart))))) (xCons (xBin oAdd (xVar 8) (xC (.int 1))) (xCons (xNeg (xC (.int 1))) (xNil))))) (gN 7)) (zNil)))))
noncomputable def lp2__law_plan : Env → Mu → RS :=
  zSeq (zAsg (xCallS 3 F_law_take (xCons (xVar 0) (xCons (xVar 1) (xCons (xBin oSub (xCB oLen (xCons (xVar 7) (xNil))) (xC (.int 1))) (xNil))))) (gN 8))
  (zSeq (zAsg (xCallS 3 F_law_shift (xCons (xMv (xVar 7)) (xCons (xVar 8) (xCons (xC (.int 1)) (xNil))))) (gN 7))
  (zAsg (xCel (xCat (xFrz (xCat (xFrz (xSlL (xVar 7) (xNoPart) (xPart (xVar 8)))) (xFrz (xLst (xCons (xBin oIx (xFrz (xLst (xCons (xTup (xCons (xC (.str "recall")) (xNil))) (xCons (xTup (xCons (xC (.str "note")) (xNil))) (xCons (xTup (xCons (xC (.str "wait")) (xNil))) (xCons (xTup (xCons (xC (.str "go")) (xCons (xBin oAdd (xVar 8) (xC (.int 1))) (xNil)))) (xCons (xTup (xCons (xC (.str "if")) (xCons (xC (.str "ok")) (xCons (xBin oAdd (xVar 8) (xC (.int 1))) (xNil))))) (xNil)))))))) (xCallS 3 F_law_take (xCons (xVar 0) (xCons (xVar 1) (xCons (xC (.int 5)) (xNil)))))) (xNil)))))) (xFrz (xSlL (xVar 7) (xPart (xVar 8)) (xNoPart))))) (gN 7)))
noncomputable def tl1__law_plan : Env → Mu → RS :=
  zSeq (zIf (xTst (xBin oEq (xCallS 3 F_law_take (xCons (xVar 0) (xCons (xVar 1) (xCons (xC (.int 4)) (xNil))))) (xC (.int 0)))) (zFor (iRng iRg1 (xCons (xBin oSub (xBin oAdd (xC (.int 13)) (xCallS 3 F_law_take (xCons (xVar 0) (xCons (xVar 1) (xCons (xC (.int 4)) (xNil)))))) (xCB oLen (xCons (xVar 7) (xNil)))) (xNil))) (gN 6) lp2__law_plan) (zNil))
  (zRet (xCB oTuple (xCons (xVar 7) (xNil))))
@[simp] theorem s_tl1__law_plan {e : Env} {m : Mu} : tl1__law_plan e m = ((zIf (xTst (xBin oEq (xCallS 3 F_law_take (xCons (xVar 0) (xCons (xVar 1) (xCons (xC (.int 4)) (xNil))))) (xC (.int 0)))) (zFor (iRng iRg1 (xCons (xBin oSub (xBin oAdd (xC (.int 13)) (xCallS 3 F_law_take (xCons (xVar 0) (xCons (xVar 1) (xCons (xC (.int 4)) (xNil)))))) (xCB oLen (xCons (xVar 7) (xNil)))) (xNil))) (gN 6) lp2__law_plan) (zNil)) e m).thn (zRet (xCB oTuple (xCons (xVar 7) (xNil)))) := rfl
noncomputable def tl2__law_plan : Env → Mu → RS :=
  zSeq (zFor (iRng iRg1 (xCons (xBin oIx (xFrz (xLst (xCons (xC (.int 0)) (xCons (xC (.int 0)) (xCons (xC (.int 1)) (xCons (xC (.int 2)) (xNil))))))) (xCallS 3 F_law_take (xCons (xVar 0) (xCons (xVar 1) (xCons (xC (.int 4)) (xNil)))))) (xNil))) (gN 6) lp1__law_plan)
  (tl1__law_plan)
@[simp] theorem s_tl2__law_plan {e : Env} {m : Mu} : tl2__law_plan e m = ((zFor (iRng iRg1 (xCons (xBin oIx (xFrz (xLst (xCons (xC (.int 0)) (xCons (xC (.int 0)) (xCons (xC (.int 1)) (xCons (xC (.int 2)) (xNil))))))) (xCallS 3 F_law_take (xCons (xVar 0) (xCons (xVar 1) (xCons (xC (.int 4)) (xNil)))))) (xNil))) (gN 6) lp1__law_plan) e m).thn (tl1__law_plan) := rfl
noncomputable def tl3__law_plan : Env → Mu → RS :=
  zSeq (zIf (xAndT (xNotT (xTst (xVar 2))) (xTst (xBin oIn (xTup (xCons (xC (.str "count")) (xNil))) (xVar 7)))) (zAsg (xCel (xCF oList (xCons (xBin oIx (xVar 3) (xC (.int 2))) (xNil)))) (gN 7)) (zNil))
  (tl2__law_plan)
@[simp] theorem s_tl3__law_plan {e : Env} {m : Mu} : tl3__law_plan e m = ((zIf (xAndT (xNotT (xTst (xVar 2))) (xTst (xBin oIn (xTup (xCons (xC (.str "count")) (xNil))) (xVar 7)))) (zAsg (xCel (xCF oList (xCons (xBin oIx (xVar 3) (xC (.int 2))) (xNil)))) (gN 7)) (zNil)) e m).thn (tl2__law_plan) := rfl
noncomputable def tl4__law_plan : Env → Mu → RS :=
  zSeq (zAsg (xCel (xCF oList (xCons (xBin oIx (xVar 3) (xCallS 3 F_law_take (xCons (xVar 0) (xCons (xVar 1) (xCons (xC (.int 6)) (xNil)))))) (xNil)))) (gN 7))
  (tl3__law_plan)
@[simp] theorem s_tl4__law_plan {e : Env} {m : Mu} : tl4__law_plan e m = ((zAsg (xCel (xCF oList (xCons (xBin oIx (xVar 3) (xCallS 3 F_law_take (xCons (xVar 0) (xCons (xVar 1) (xCons (xC (.int 6)) (xNil)))))) (xNil)))) (gN 7)) e m).thn (tl3__law_plan) := rfl
noncomputable def tl5__law_plan : Env → Mu → RS :=
  zSeq (zIf (xTst (xBin oEq (xVar 4) (xC (.int 0)))) (zSeq (zAsg (xBin oAdd (xC (.int 1)) (xCallS 3 F_law_take (xCons (xVar 0) (xCons (xVar 1) (xCons (xC (.int 16)) (xNil)))))) (gN 5))
  (zSeq (zAsg (xCel (xLc (iRng iRg1 (xCons (xVar 5) (xNil))) [6] (tN 6) (pYes) (xCallS 4 F_law_line (xCons (xVar 0) (xCons (xVar 1) (xCons (xVar 5) (xCons (xVar 2) (xNil)))))))) (gN 7))
  (zSeq (zAsg (xIf (xTst (xBin oGt (xCallS 3 F_law_take (xCons (xVar 0) (xCons (xVar 1) (xCons (xC (.int 3)) (xNil))))) (xC (.int 0)))) (xTup (xCons (xC (.str "end")) (xNil))) (xTup (xCons (xC (.str "go")) (xCons (xCallS 3 F_law_take (xCons (xVar 0) (xCons (xVar 1) (xCons (xVar 5) (xNil))))) (xNil))))) (gSubL (xVar 7) (xBin oSub (xVar 5) (xC (.int 1)))))
  (zRet (xCB oTuple (xCons (xVar 7) (xNil))))))) (zNil))
  (tl4__law_plan)
@[simp] theorem s_tl5__law_plan {e : Env} {m : Mu} : tl5__law_plan e m = ((zIf (xTst (xBin oEq (xVar 4) (xC (.int 0)))) (zSeq (zAsg (xBin oAdd (xC (.int 1)) (xCallS 3 F_law_take (xCons (xVar 0) (xCons (xVar 1) (xCons (xC (.int 16)) (xNil)))))) (gN 5))
  (zSeq (zAsg (xCel (xLc (iRng iRg1 (xCons (xVar 5) (xNil))) [6] (tN 6) (pYes) (xCallS 4 F_law_line (xCons (xVar 0) (xCons (xVar 1) (xCons (xVar 5) (xCons (xVar 2) (xNil)))))))) (gN 7))
  (zSeq (zAsg (xIf (xTst (xBin oGt (xCallS 3 F_law_take (xCons (xVar 0) (xCons (xVar 1) (xCons (xC (.int 3)) (xNil))))) (xC (.int 0)))) (xTup (xCons (xC (.str "end")) (xNil))) (xTup (xCons (xC (.str "go")) (xCons (xCallS 3 F_law_take (xCons (xVar 0) (xCons (xVar 1) (xCons (xVar 5) (xNil))))) (xNil))))) (gSubL (xVar 7) (xBin oSub (xVar 5) (xC (.int 1)))))
  (zRet (xCB oTuple (xCons (xVar 7) (xNil))))))) (zNil)) e m).thn (tl4__law_plan) := rfl
noncomputable def tl6__law_plan : Env → Mu → RS :=
  zSeq (zAsg (xCallS 3 F_law_take (xCons (xVar 0) (xCons (xVar 1) (xCons (xC (.int 4)) (xNil))))) (gN 4))
  (tl5__law_plan)
@[simp] theorem s_tl6__law_plan {e : Env} {m : Mu} : tl6__law_plan e m = ((zAsg (xCallS 3 F_law_take (xCons (xVar 0) (xCons (xVar 1) (xCons (xC (.int 4)) (xNil))))) (gN 4)) e m).thn (tl5__law_plan) := rfl
noncomputable def tl7__law_plan : Env → Mu → RS :=
  zSeq (zIf (xAndT (xTst (xVar 2)) (xTst (xBin oEq (xCallS 3 F_law_take (xCons (xVar 0) (xCons (xVar 1) (xCons (xC (.int 12)) (xNil))))) (xC (.int 0))))) (zRet (xTup (xCons (xTup (xCons (xC (.str "count")) (xNil))) (xCons (xTup (xCons (xC (.str "if")) (xCons (xC (.str "ok")) (xCons (xC (.int 3)) (xNil))))) (xCons (xTup (xCons (xC (.str "note")) (xNil))) (xCons (xTup (xCons (xC (.str "if")) (xCons (xC (.str "done")) (xCons (xC (.int 8)) (xNil))))) (xCons (xTup (xCons (xC (.str "add")) (xNil))) (xCons (xTup (xCons (xC (.str "send")) (xNil))) (xCons (xTup (xCons (xC (.str "wait")) (xNil))) (xCons (xTup (xCons (xC (.str "go")) (xCons (xBin oIx (xFrz (xLst (xCons (xC (.int 0)) (xCons (xC (.int 0)) (xCons (xC (.int 3)) (xNil)))))) (xCallS 3 F_law_take (xCons (xVar 0) (xCons (xVar 1) (xCons (xC (.int 3)) (xNil)))))) (xNil)))) (xCons (xTup (xCons (xC (.str "end")) (xNil))) (xNil)))))))))))) (zNil))
  (tl6__law_plan)
@[simp] theorem s_tl7__law_plan {e : Env} {m : Mu} : tl7__law_plan e m = ((zIf (xAndT (xTst (xVar 2)) (xTst (xBin oEq (xCallS 3 F_law_take (xCons (xVar 0) (xCons (xVar 1) (xCons (xC (.int 12)) (xNil))))) (xC (.int 0))))) (zRet (xTup (xCons (xTup (xCons (xC (.str "count")) (xNil))) (xCons (xTup (xCons (xC (.str "if")) (xCons (xC (.str "ok")) (xCons (xC (.int 3)) (xNil))))) (xCons (xTup (xCons (xC (.str "note")) (xNil))) (xCons (xTup (xCons (xC (.str "if")) (xCons (xC (.str "done")) (xCons (xC (.int 8)) (xNil))))) (xCons (xTup (xCons (xC (.str "add")) (xNil))) (xCons (xTup (xCons (xC (.str "send")) (xNil))) (xCons (xTup (xCons (xC (.str "wait")) (xNil))) (xCons (xTup (xCons (xC (.str "go")) (xCons (xBin oIx (xFrz (xLst (xCons (xC (.int 0)) (xCons (xC (.int 0)) (xCons (xC (.int 3)) (xNil)))))) (xCallS 3 F_law_take (xCons (xVar 0) (xCons (xVar 1) (xCons (xC (.int 3)) (xNil)))))) (xNil)))) (xCons (xTup (xCons (xC (.str "end")) (xNil))) (xNil)))))))))))) (zNil)) e m).thn (tl6__law_plan) := rfl
noncomputable def tl8__law_plan : Env → Mu → RS :=
  zSeq (zExpr (xBM isL oAppend (xVar 3) (xCons (xTup (xCons (xTup (xCons (xC (.str "recall")) (xNil))) (xCons (xTup (xCons (xC (.str "if")) (xCons (xC (.str "done")) (xCons (xC (.int 7)) (xNil))))) (xCons (xTup (xCons (xC (.str "add")) (xNil))) (xCons (xTup (xCons (xC (.str "send")) (xNil))) (xCons (xTup (xCons (xC (.str "wait")) (xNil))) (xCons (xTup (xCons (xC (.str "note")) (xNil))) (xCons (xTup (xCons (xC (.str "go")) (xCons (xC (.int 1)) (xNil)))) (xCons (xTup (xCons (xC (.str "end")) (xNil))) (xNil)))))))))) (xNil))))
  (tl7__law_plan)
@[simp] theorem s_tl8__law_plan {e : Env} {m : Mu} : tl8__law_plan e m = ((zExpr (xBM isL oAppend (xVar 3) (xCons (xTup (xCons (xTup (xCons (xC (.str "recall")) (xNil))) (xCons (xTup (xCons (xC (.str "if")) (xCons (xC (.str "done")) (xCons (xC (.int 7)) (xNil))))) (xCons (xTup (xCons (xC (.str "add")) (xNil))) (xCons (xTup (xCons (xC (.str "send")) (xNil))) (xCons (xTup (xCons (xC (.str "wait")) (xNil))) (xCons (xTup (xCons (xC (.str "note")) (xNil))) (xCons (xTup (xCons (xC (.str "go")) (xCons (xC (.int 1)) (xNil)))) (xCons (xTup (xCons (xC (.str "end")) (xNil))) (xNil)))))))))) (xNil)))) e m).thn (tl7__law_plan) := rfl
noncomputable def tl9__law_plan : Env → Mu → RS :=
  zSeq (zExpr (xBM isL oAppend (xVar 3) (xCons (xTup (xCons (xTup (xCons (xC (.str "recall")) (xNil))) (xCons (xTup (xCons (xC (.str "add")) (xNil))) (xCons (xTup (xCons (xC (.str "send")) (xNil))) (xCons (xTup (xCons (xC (.str "wait")) (xNil))) (xCons (xTup (xCons (xC (.str "go")) (xCons (xC (.int 0)) (xNil)))) (xCons (xTup (xCons (xC (.str "end")) (xNil))) (xNil)))))))) (xNil))))
  (tl8__law_plan)
@[simp] theorem s_tl9__law_plan {e : Env} {m : Mu} : tl9__law_plan e m = ((zExpr (xBM isL oAppend (xVar 3) (xCons (xTup (xCons (xTup (xCons (xC (.str "recall")) (xNil))) (xCons (xTup (xCons (xC (.str "add")) (xNil))) (xCons (xTup (xCons (xC (.str "send")) (xNil))) (xCons (xTup (xCons (xC (.str "wait")) (xNil))) (xCons (xTup (xCons (xC (.str "go")) (xCons (xC (.int 0)) (xNil)))) (xCons (xTup (xCons (xC (.str "end")) (xNil))) (xNil)))))))) (xNil)))) e m).thn (tl8__law_plan) := rfl
noncomputable def tl10__law_plan : Env → Mu → RS :=
  zSeq (zExpr (xBM isL oAppend (xVar 3) (xCons (xTup (xCons (xTup (xCons (xC (.str "recall")) (xNil))) (xCons (xTup (xCons (xC (.str "if")) (xCons (xC (.str "done")) (xCons (xC (.int 7)) (xNil))))) (xCons (xTup (xCons (xC (.str "add")) (xNil))) (xCons (xTup (xCons (xC (.str "note")) (xNil))) (xCons (xTup (xCons (xC (.str "send")) (xNil))) (xCons (xTup (xCons (xC (.str "wait")) (xNil))) (xCons (xTup (xCons (xC (.str "go")) (xCons (xC (.int 0)) (xNil)))) (xCons (xTup (xCons (xC (.str "end")) (xNil))) (xNil)))))))))) (xNil))))
  (tl9__law_plan)
@[simp] theorem s_tl10__law_plan {e : Env} {m : Mu} : tl10__law_plan e m = ((zExpr (xBM isL oAppend (xVar 3) (xCons (xTup (xCons (xTup (xCons (xC (.str "recall")) (xNil))) (xCons (xTup (xCons (xC (.str "if")) (xCons (xC (.str "done")) (xCons (xC (.int 7)) (xNil))))) (xCons (xTup (xCons (xC (.str "add")) (xNil))) (xCons (xTup (xCons (xC (.str "note")) (xNil))) (xCons (xTup (xCons (xC (.str "send")) (xNil))) (xCons (xTup (xCons (xC (.str "wait")) (xNil))) (xCons (xTup (xCons (xC (.str "go")) (xCons (xC (.int 0)) (xNil)))) (xCons (xTup (xCons (xC (.str "end")) (xNil))) (xNil)))))))))) (xNil)))) e m).thn (tl9__law_plan) := rfl
noncomputable def tl11__law_plan : Env → Mu → RS :=
  zSeq (zExpr (xBM isL oAppend (xVar 3) (xCons (xTup (xCons (xTup (xCons (xC (.str "recall")) (xNil))) (xCons (xTup (xCons (xC (.str "if")) (xCons (xC (.str "done")) (xCons (xC (.int 9)) (xNil))))) (xCons (xTup (xCons (xC (.str "add")) (xNil))) (xCons (xTup (xCons (xC (.str "send")) (xNil))) (xCons (xTup (xCons (xC (.str "wait")) (xNil))) (xCons (xTup (xCons (xC (.str "if")) (xCons (xC (.str "ok")) (xCons (xC (.int 7)) (xNil))))) (xCons (xTup (xCons (xC (.str "go")) (xCons (xC (.int 0)) (xNil)))) (xCons (xTup (xCons (xC (.str "note")) (xNil))) (xCons (xTup (xCons (xC (.str "go")) (xCons (xC (.int 0)) (xNil)))) (xCons (xTup (xCons (xC (.str "end")) (xNil))) (xNil)))))))))))) (xNil))))
  (tl10__law_plan)
@[simp] theorem s_tl11__law_plan {e : Env} {m : Mu} : tl11__law_plan e m = ((zExpr (xBM isL oAppend (xVar 3) (xCons (xTup (xCons (xTup (xCons (xC (.str "recall")) (xNil))) (xCons (xTup (xCons (xC (.str "if")) (xCons (xC (.str "done")) (xCons (xC (.int 9)) (xNil))))) (xCons (xTup (xCons (xC (.str "add")) (xNil))) (xCons (xTup (xCons (xC (.str "send")) (xNil))) (xCons (xTup (xCons (xC (.str "wait")) (xNil))) (xCons (xTup (xCons (xC (.str "if")) (xCons (xC (.str "ok")) (xCons (xC (.int 7)) (xNil))))) (xCons (xTup (xCons (xC (.str "go")) (xCons (xC (.int 0)) (xNil)))) (xCons (xTup (xCons (xC (.str "note")) (xNil))) (xCons (xTup (xCons (xC (.str "go")) (xCons (xC (.int 0)) (xNil)))) (xCons (xTup (xCons (xC (.str "end")) (xNil))) (xNil)))))))))))) (xNil)))) e m).thn (tl10__law_plan) := rfl
noncomputable def tl12__law_plan : Env → Mu → RS :=
  zSeq (zExpr (xBM isL oAppend (xVar 3) (xCons (xTup (xCons (xTup (xCons (xC (.str "recall")) (xNil))) (xCons (xTup (xCons (xC (.str "if")) (xCons (xC (.str "done")) (xCons (xC (.int 8)) (xNil))))) (xCons (xTup (xCons (xC (.str "add")) (xNil))) (xCons (xTup (xCons (xC (.str "send")) (xNil))) (xCons (xTup (xCons (xC (.str "wait")) (xNil))) (xCons (xTup (xCons (xC (.str "if")) (xCons (xC (.str "ok")) (xCons (xC (.int 7)) (xNil))))) (xCons (xTup (xCons (xC (.str "go")) (xCons (xC (.int 3)) (xNil)))) (xCons (xTup (xCons (xC (.str "note")) (xNil))) (xCons (xTup (xCons (xC (.str "end")) (xNil))) (xNil))))))))))) (xNil))))
  (tl11__law_plan)
@[simp] theorem s_tl12__law_plan {e : Env} {m : Mu} : tl12__law_plan e m = ((zExpr (xBM isL oAppend (xVar 3) (xCons (xTup (xCons (xTup (xCons (xC (.str "recall")) (xNil))) (xCons (xTup (xCons (xC (.str "if")) (xCons (xC (.str "done")) (xCons (xC (.int 8)) (xNil))))) (xCons (xTup (xCons (xC (.str "add")) (xNil))) (xCons (xTup (xCons (xC (.str "send")) (xNil))) (xCons (xTup (xCons (xC (.str "wait")) (xNil))) (xCons (xTup (xCons (xC (.str "if")) (xCons (xC (.str "ok")) (xCons (xC (.int 7)) (xNil))))) (xCons (xTup (xCons (xC (.str "go")) (xCons (xC (.int 3)) (xNil)))) (xCons (xTup (xCons (xC (.str "note")) (xNil))) (xCons (xTup (xCons (xC (.str "end")) (xNil))) (xNil))))))))))) (xNil)))) e m).thn (tl11__law_plan) := rfl
noncomputable def g__law_plan : Env → Mu → RS :=
  zSeq (zAsg (xCel (xLst (xCons (xTup (xCons (xTup (xCons (xC (.str "count")) (xNil))) (xCons (xTup (xCons (xC (.str "if")) (xCons (xC (.str "done")) (xCons (xC (.int 6)) (xNil))))) (xCons (xTup (xCons (xC (.str "add")) (xNil))) (xCons (xTup (xCons (xC (.str "send")) (xNil))) (xCons (xTup (xCons (xC (.str "wait")) (xNil))) (xCons (xTup (xCons (xC (.str "go")) (xCons (xC (.int 0)) (xNil)))) (xCons (xTup (xCons (xC (.str "end")) (xNil))) (xNil))))))))) (xNil)))) (gN 3))
  (tl12__law_plan)
theorem sb__law_plan {P : Program} {w : World} {K : PySem.W.Frag} {mg : Str → Option Value} {base : Heap} (h__law_take : FnS P w K mg base 2 "_law_take" 3 F_law_take) (m_range : mg "range" = none) (h__law_line : FnS P w K mg base 3 "_law_line" 4 F_law_line) (m_tuple : mg "tuple" = none) (m_list : mg "list" = none) (m_len : mg "len" = none) (h__law_shift : FnS P w K mg base 1 "_law_shift" 3 F_law_shift) : ∀ (f : Addr) cd A outer s H E, Cok (cxD P w K mg base nm__law_plan "_law_plan" (defScope (top 28)) f cd A outer s H E) (fun c d _ H => E c d H) 3 → SB (cxD P w K mg base nm__law_plan "_law_plan" (defScope (top 28)) f cd A outer s H E) (fun c d _ H => E c d H) (defBody (top 28)) g__law_plan := fun f cd A outer s H E C =>
  (sb_cons (ss_set (i := 3) nd__law_plan rfl (.inl rfl) (sf_cel (sf_lst (sa_cons (se_tup (sa_cons (se_tup (sa_cons se_str sa_nil)) (sa_cons (se_tup (sa_cons se_str (sa_cons se_str (sa_cons se_int sa_nil)))) (sa_cons (se_tup (sa_cons se_str sa_nil)) (sa_cons (se_tup (sa_cons se_str sa_nil)) (sa_cons (se_tup (sa_cons se_str sa_nil)) (sa_cons (se_tup (sa_cons se_str (sa_cons se_int sa_nil))) (sa_cons (se_tup (sa_cons se_str sa_nil)) sa_nil)))))))) sa_nil))))
  (sb_cons (ss_expr (se_append (se_var 3 rfl (.inl rfl)) (sa_cons (se_tup (sa_cons (se_tup (sa_cons se_str sa_nil)) (sa_cons (se_tup (sa_cons se_str (sa_cons se_str (sa_cons se_int sa_nil)))) (sa_cons (se_tup (sa_cons se_str sa_nil)) (sa_cons (se_tup (sa_cons se_str sa_nil)) (sa_cons (se_tup (sa_cons se_str sa_nil)) (sa_cons (se_tup (sa_cons se_str (sa_cons se_str (sa_cons se_int sa_nil)))) (sa_cons (se_tup (sa_cons se_str (sa_cons se_int sa_nil))) (sa_cons (se_tup (sa_cons se_str sa_nil)) (sa_cons (se_tup (sa_cons se_str sa_nil)) sa_nil)))))))))) sa_nil)))
  (sb_cons (ss_expr (se_append (se_var 3 rfl (.inl rfl)) (sa_cons (se_tup (sa_cons (se_tup (sa_cons se_str sa_nil)) (sa_cons (se_tup (sa_cons se_str (sa_cons se_str (sa_cons se_int sa_nil)))) (sa_cons (se_tup (sa_cons se_str sa_nil)) (sa_cons (se_tup (sa_cons se_str sa_nil)) (sa_cons (se_tup (sa_cons se_str sa_nil)) (sa_cons (se_tup (sa_cons se_str (sa_cons se_str (sa_cons se_int sa_nil)))) (sa_cons (se_tup (sa_cons se_str (sa_cons se_int sa_nil))) (sa_cons (se_tup (sa_cons se_str sa_nil)) (sa_cons (se_tup (sa_cons se_str (sa_cons se_int sa_nil))) (sa_cons (se_tup (sa_cons se_str sa_nil)) sa_nil))))))))))) sa_nil)))
  (sb_cons (ss_expr (se_append (se_var 3 rfl (.inl rfl)) (sa_cons (se_tup (sa_cons (se_tup (sa_cons se_str sa_nil)) (sa_cons (se_tup (sa_cons se_str (sa_cons se_str (sa_cons se_int sa_nil)))) (sa_cons (se_tup (sa_cons se_str sa_nil)) (sa_cons (se_tup (sa_cons se_str sa_nil)) (sa_cons (se_tup (sa_cons se_str sa_nil)) (sa_cons (se_tup (sa_cons se_str sa_nil)) (sa_cons (se_tup (sa_cons se_str (sa_cons se_int sa_nil))) (sa_cons (se_tup (sa_cons se_str sa_nil)) sa_nil))))))))) sa_nil)))
  (sb_cons (ss_expr (se_append (se_var 3 rfl (.inl rfl)) (sa_cons (se_tup (sa_cons (se_tup (sa_cons se_str sa_nil)) (sa_cons (se_tup (sa_cons se_str sa_nil)) (sa_cons (se_tup (sa_cons se_str sa_nil)) (sa_cons (se_tup (sa_cons se_str sa_nil)) (sa_cons (se_tup (sa_cons se_str (sa_cons se_int sa_nil))) (sa_cons (se_tup (sa_cons se_str sa_nil)) sa_nil))))))) sa_nil)))
  (sb_cons (ss_expr (se_append (se_var 3 rfl (.inl rfl)) (sa_cons (se_tup (sa_cons (se_tup (sa_cons se_str sa_nil)) (sa_cons (se_tup (sa_cons se_str (sa_cons se_str (sa_cons se_int sa_nil)))) (sa_cons (se_tup (sa_cons se_str sa_nil)) (sa_cons (se_tup (sa_cons se_str sa_nil)) (sa_cons (se_tup (sa_cons se_str sa_nil)) (sa_cons (se_tup (sa_cons se_str sa_nil)) (sa_cons (se_tup (sa_cons se_str (sa_cons se_int sa_nil))) (sa_cons (se_tup (sa_cons se_str sa_nil)) sa_nil))))))))) sa_nil)))
  (sb_cons (ss_if (sw_st (sw_and (st_val (se_var 2 rfl (.inr (.inl rfl)))) (sw_and1 (st_cmp (os_eq C.hr.units) (se_callS h__law_take (C.hr.mono (by first | decide | omega)) C.tk rfl (sa_cons (se_var 0 rfl (.inr (.inl rfl))) (sa_cons (se_var 1 rfl (.inr (.inl rfl))) (sa_cons se_int sa_nil)))) se_int (nomark _))))) (sb_one (ss_ret (se_tup (sa_cons (se_tup (sa_cons se_str sa_nil)) (sa_cons (se_tup (sa_cons se_str (sa_cons se_str (sa_cons se_int sa_nil)))) (sa_cons (se_tup (sa_cons se_str sa_nil)) (sa_cons (se_tup (sa_cons se_str (sa_cons se_str (sa_cons se_int sa_nil)))) (sa_cons (se_tup (sa_cons se_str sa_nil)) (sa_cons (se_tup (sa_cons se_str sa_nil)) (sa_cons (se_tup (sa_cons se_str sa_nil)) (sa_cons (se_tup (sa_cons se_str (sa_cons (se_ix (sf_frz (sf_lst (sa_cons se_int (sa_cons se_int (sa_cons se_int sa_nil))))) (se_callS h__law_take (C.hr.mono (by first | decide | omega)) C.tk rfl (sa_cons (se_var 0 rfl (.inr (.inl rfl))) (sa_cons (se_var 1 rfl (.inr (.inl rfl))) (sa_cons se_int sa_nil)))) (fun _ _ => rfl)) sa_nil))) (sa_cons (se_tup (sa_cons se_str sa_nil)) sa_nil)))))))))))) sb_nil)
  (sb_cons (ss_set (i := 4) nd__law_plan rfl (.inl rfl) (se_callS h__law_take (C.hr.mono (by first | decide | omega)) C.tk rfl (sa_cons (se_var 0 rfl (.inr (.inl rfl))) (sa_cons (se_var 1 rfl (.inr (.inl rfl))) (sa_cons se_int sa_nil)))))
  (sb_cons (ss_if (st_cmp (os_eq C.hr.units) (se_var 4 rfl (.inl rfl)) se_int (nomark _)) (sb_cons (ss_set (i := 5) nd__law_plan rfl (.inr rfl) (se_op os_add se_int (se_callS h__law_take (C.hr.mono (by first | decide | omega)) C.tk rfl (sa_cons (se_var 0 rfl (.inr (.inl rfl))) (sa_cons (se_var 1 rfl (.inr (.inl rfl))) (sa_cons se_int sa_nil))))))
  (sb_cons (ss_setLcC (j := 7) (i := 6) (own := [(("k" : Str), 6)]) C.calm nd__law_plan rfl rfl (sw_true rfl rfl rfl (by decide +kernel)) (si_range1 rfl m_range (sa_cons (se_var 5 rfl (.inr (.inl rfl))) sa_nil)) (blkOk_by (own := [(("k" : Str), 6)]) (N := nm__law_plan) (sc := defScope (top 28)) (by decide +kernel)) rfl (fun _ _ _ _ _ => pg_name (i := 6) nd__law_plan rfl (.inl rfl)) (fun _ _ _ _ _ => sts_nil) (fun _ _ _ _ _ => (se_callS h__law_line (C.hr.mono (by first | decide | omega)) takesN0 rfl (sa_cons (se_var 0 rfl (.inr (.inl rfl))) (sa_cons (se_var 1 rfl (.inr (.inl rfl))) (sa_cons (se_var 5 rfl (.inr (.inl rfl))) (sa_cons (se_var 2 rfl (.inr (.inl rfl))) sa_nil)))))))
  (sb_cons (ss_asg (se_if (st_cmp os_gt (se_callS h__law_take (C.hr.mono (by first | decide | omega)) C.tk rfl (sa_cons (se_var 0 rfl (.inr (.inl rfl))) (sa_cons (se_var 1 rfl (.inr (.inl rfl))) (sa_cons se_int sa_nil)))) se_int (nomark _)) (se_tup (sa_cons se_str sa_nil)) (se_tup (sa_cons se_str (sa_cons (se_callS h__law_take (C.hr.mono (by first | decide | omega)) C.tk rfl (sa_cons (se_var 0 rfl (.inr (.inl rfl))) (sa_cons (se_var 1 rfl (.inr (.inl rfl))) (sa_cons (se_var 5 rfl (.inr (.inl rfl))) sa_nil)))) sa_nil)))) (sg_subL (se_var 7 rfl (.inl rfl)) (se_op os_sub (se_var 5 rfl (.inr (.inl rfl))) se_int)))
  (sb_one (ss_ret (se_ct cs_tuple rfl m_tuple (by decide +kernel) (sa_cons (se_var 7 rfl (.inl rfl)) sa_nil))))))) sb_nil)
  (sb_cons (ss_set (i := 7) nd__law_plan rfl (.inl rfl) (sf_cel (sf_ct cf_list rfl m_list (by decide +kernel) (sa_cons (se_ix (se_var 3 rfl (.inl rfl)) (se_callS h__law_take (C.hr.mono (by first | decide | omega)) C.tk rfl (sa_cons (se_var 0 rfl (.inr (.inl rfl))) (sa_cons (se_var 1 rfl (.inr (.inl rfl))) (sa_cons se_int sa_nil)))) (fun _ _ => rfl)) sa_nil))))
  (sb_cons (ss_if (sw_st (sw_and (st_not (st_val (se_var 2 rfl (.inr (.inl rfl))))) (sw_and1 (st_cmp (os_in (un65 C.hr)) (se_tup (sa_cons se_str sa_nil)) (se_var 7 rfl (.inl rfl)) (by rfl))))) (sb_one (ss_set (i := 7) nd__law_plan rfl (.inl rfl) (sf_cel (sf_ct cf_list rfl m_list (by decide +kernel) (sa_cons (se_ix (se_var 3 rfl (.inl rfl)) se_int (fun _ _ => rfl)) sa_nil))))) sb_nil)
  (sb_cons (ss_for C.po C.calm (si_range1 rfl m_range (sa_cons (se_ix (sf_frz (sf_lst (sa_cons se_int (sa_cons se_int (sa_cons se_int (sa_cons se_int sa_nil)))))) (se_callS h__law_take (C.hr.mono (by first | decide | omega)) C.tk rfl (sa_cons (se_var 0 rfl (.inr (.inl rfl))) (sa_cons (se_var 1 rfl (.inr (.inl rfl))) (sa_cons se_int sa_nil)))) (fun _ _ => rfl)) sa_nil)) (sg_name (i := 6) nd__law_plan rfl (.inl rfl)) (sb_cons (ss_set (i := 8) nd__law_plan rfl (.inl rfl) (se_callS h__law_take (C.hr.mono (by first | decide | omega)) C.tk rfl (sa_cons (se_var 0 rfl (.inr (.inl rfl))) (sa_cons (se_var 1 rfl (.inr (.inl rfl))) (sa_cons (se_op os_sub (se_cb cs_len rfl m_len (by decide +kernel) (sa_cons (se_var 7 rfl (.inl rfl)) sa_nil)) se_int) sa_nil)))))
  (sb_cons (ss_set (i := 9) nd__law_plan rfl (.inl rfl) (se_callS h__law_take (C.hr.mono (by first | decide | omega)) C.tk rfl (sa_cons (se_var 0 rfl (.inr (.inl rfl))) (sa_cons (se_var 1 rfl (.inr (.inl rfl))) (sa_cons se_int sa_nil)))))
  (sb_one (ss_if (st_cmp (os_eq C.hr.units) (se_var 9 rfl (.inl rfl)) se_int (nomark _)) (sb_one (ss_asg (se_callS h__law_line (C.hr.mono (by first | decide | omega)) C.tk rfl (sa_cons (se_var 0 rfl (.inr (.inl rfl))) (sa_cons (se_var 1 rfl (.inr (.inl rfl))) (sa_cons (se_cb cs_len rfl m_len (by decide +kernel) (sa_cons (se_var 7 rfl (.inl rfl)) sa_nil)) (sa_cons (se_var 2 rfl (.inr (.inl rfl))) sa_nil))))) (sg_subL (se_var 7 rfl (.inl rfl)) (se_var 8 rfl (.inl rfl))))) (sb_one (ss_if (sw_st (sw_and (st_cmp (os_eq C.hr.units) (se_var 9 rfl (.inl rfl)) se_int (nomark _)) (sw_and1 (st_cmp os_lt (se_cb cs_len rfl m_len (by decide +kernel) (sa_cons (se_var 7 rfl (.inl rfl)) sa_nil)) se_int (nomark _))))) (sb_cons (ss_set (i := 7) nd__law_plan rfl (.inl rfl) (se_callS h__law_shift (C.hr.mono (by first | decide | omega)) C.tk rfl (sa_cons (se_mv (se_var 7 rfl (.inl rfl))) (sa_cons (se_var 8 rfl (.inl rfl)) (sa_cons se_int sa_nil)))))
  (sb_one (ss_set (i := 7) nd__law_plan rfl (.inl rfl) (sf_cel (sf_cat (sf_frz (sf_cat (sf_frz (sf_slice (se_var 7 rfl (.inl rfl)) so_none (so_some (se_var 8 rfl (.inl rfl))))) (sf_frz (sf_lst (sa_cons (se_callS h__law_line (C.hr.mono (by first | decide | omega)) C.tk rfl (sa_cons (se_var 0 rfl (.inr (.inl rfl))) (sa_cons (se_var 1 rfl (.inr (.inl rfl))) (sa_cons (se_op os_add (se_cb cs_len rfl m_len (by decide +kernel) (sa_cons (se_var 7 rfl (.inl rfl)) sa_nil)) se_int) (sa_cons (se_var 2 rfl (.inr (.inl rfl))) sa_nil))))) sa_nil))))) (sf_frz (sf_slice (se_var 7 rfl (.inl rfl)) (so_some (se_var 8 rfl (.inl rfl))) so_none))))))) (sb_one (ss_if (st_cmp os_gt (se_cb cs_len rfl m_len (by decide +kernel) (sa_cons (se_var 7 rfl (.inl rfl)) sa_nil)) se_int (nomark _)) (sb_one (ss_set (i := 7) nd__law_plan rfl (.inl rfl) (se_callS h__law_shift (C.hr.mono (by first | decide | omega)) C.tk rfl (sa_cons (sf_frz (sf_cat (sf_frz (sf_slice (se_var 7 rfl (.inl rfl)) so_none (so_some (se_var 8 rfl (.inl rfl))))) (sf_frz (sf_slice (se_var 7 rfl (.inl rfl)) (so_some (se_op os_add (se_var 8 rfl (.inl rfl)) se_int)) so_none)))) (sa_cons (se_op os_add (se_var 8 rfl (.inl rfl)) se_int) (sa_cons (se_neg se_int) sa_nil)))))) sb_nil)))))))))
  (sb_cons (ss_if (st_cmp (os_eq C.hr.units) (se_callS h__law_take (C.hr.mono (by first | decide | omega)) C.tk rfl (sa_cons (se_var 0 rfl (.inr (.inl rfl))) (sa_cons (se_var 1 rfl (.inr (.inl rfl))) (sa_cons se_int sa_nil)))) se_int (nomark _)) (sb_one (ss_for C.po C.calm (si_range1 rfl m_range (sa_cons (se_op os_sub (se_op os_add se_int (se_callS h__law_take (C.hr.mono (by first | decide | omega)) C.tk rfl (sa_cons (se_var 0 rfl (.inr (.inl rfl))) (sa_cons (se_var 1 rfl (.inr (.inl rfl))) (sa_cons se_int sa_nil))))) (se_cb cs_len rfl m_len (by decide +kernel) (sa_cons (se_var 7 rfl (.inl rfl)) sa_nil))) sa_nil)) (sg_name (i := 6) nd__law_plan rfl (.inl rfl)) (sb_cons (ss_set (i := 8) nd__law_plan rfl (.inl rfl) (se_callS h__law_take (C.hr.mono (by first | decide | omega)) C.tk rfl (sa_cons (se_var 0 rfl (.inr (.inl rfl))) (sa_cons (se_var 1 rfl (.inr (.inl rfl))) (sa_cons (se_op os_sub (se_cb cs_len rfl m_len (by decide +kernel) (sa_cons (se_var 7 rfl (.inl rfl)) sa_nil)) se_int) sa_nil)))))
  (sb_cons (ss_set (i := 7) nd__law_plan rfl (.inl rfl) (se_callS h__law_shift (C.hr.mono (by first | decide | omega)) C.tk rfl (sa_cons (se_mv (se_var 7 rfl (.inl rfl))) (sa_cons (se_var 8 rfl (.inl rfl)) (sa_cons se_int sa_nil)))))
  (sb_one (ss_set (i := 7) nd__law_plan rfl (.inl rfl) (sf_cel (sf_cat (sf_frz (sf_cat (sf_frz (sf_slice (se_var 7 rfl (.inl rfl)) so_none (so_some (se_var 8 rfl (.inl rfl))))) (sf_frz (sf_lst (sa_cons (se_ix (sf_frz (sf_lst (sa_cons (se_tup (sa_cons se_str sa_nil)) (sa_cons (se_tup (sa_cons se_str sa_nil)) (sa_cons (se_tup (sa_cons se_str sa_nil)) (sa_cons (se_tup (sa_cons se_str (sa_cons (se_op os_add (se_var 8 rfl (.inl rfl)) se_int) sa_nil))) (sa_cons (se_tup (sa_cons se_str (sa_cons se_str (sa_cons (se_op os_add (se_var 8 rfl (.inl rfl)) se_int) sa_nil)))) sa_nil))))))) (se_callS h__law_take (C.hr.mono (by first | decide | omega)) C.tk rfl (sa_cons (se_var 0 rfl (.inr (.inl rfl))) (sa_cons (se_var 1 rfl (.inr (.inl rfl))) (sa_cons se_int sa_nil)))) (fun _ _ => rfl)) sa_nil))))) (sf_frz (sf_slice (se_var 7 rfl (.inl rfl)) (so_some (se_var 8 rfl (.inl rfl))) so_none)))))))))) sb_nil)
  (sb_one (ss_ret (se_ct cs_tuple rfl m_tuple (by decide +kernel) (sa_cons (se_var 7 rfl (.inl rfl)) sa_nil)))))))))))))))))
-- kind: S
-- lists: lines known words
-- listfuns: _law_shift
abbrev knD : Ce := .lst (knownV.map lnsD)
theorem known_head (ns : List Int) (n : Nat) (c : Bool) (m : Mu) : g__law_plan (startD 10 [.d (.lst (ns.map .int)), .l n, .d (.bl c)]) m = tl7__law_plan [some (.d (.lst (ns.map .int))), some (.l n), some (.d (.bl c)), some (.l m.length), none, none, none, none, none, none] (m ++ [some knD]) := by
  simp -implicitDefEqProofs [g__law_plan, knownV, knD, -s_tl7__law_plan]
section
variable {ns : List Int} {b M : Mu} {n j : Nat} {k : Int} {c : Bool} {ls : List Ln} {kn st mn kk x8 x9 : Option Va}
/-- a line changed, put in, taken out -/
theorem plan_turn1 (h0 : ns ≠ []) (hk : 0 ≤ k) (h : At b n k M) (hj : b.length ≤ j) (hM : M[j]? = some (some (.lst (ls.map Ln.d)))) (g : Good c ls) (l3 : 3 ≤ ls.length) (l15 : ls.length ≤ 15) :
    ∃ k' M' j' ls' a8 a9, 0 ≤ k' ∧ At b n k' M' ∧ b.length ≤ j' ∧ M'[j']? = some (some (.lst (List.map Ln.d ls'))) ∧ Good c ls' ∧ 3 ≤ ls'.length ∧ ls'.length ≤ 15 ∧
      lp1__law_plan [some (.d (.lst (ns.map .int))), some (.l n), some (.d (.bl c)), kn, st, mn, kk, some (.l j), x8, x9] M = .nx [some (.d (.lst (ns.map .int))), some (.l n), some (.d (.bl c)), kn, st, mn, kk, some (.l j'), a8, a9] M' := by
  have hnj : n ≠ j := fun e => by have := h.lt; omega
  have hjn : j ≠ n := fun e => hnj e.symm
  have hg := h.get
  have hnl : n < M.length := (List.getElem?_eq_some_iff.mp hg).1
  have hjl : j < M.length := (List.getElem?_eq_some_iff.mp hM).1
  have sn : ∀ x, (M.set n x)[n]? = some x := fun x => List.getElem?_set_self hnl
  have sj : ∀ x, (M.set n x)[j]? = some (some (.lst (ls.map Ln.d))) := fun x => by rw [List.getElem?_set_ne hnj]; exact hM
  have p1 : 0 < (ls.length : Int) - 1 := by omega
  obtain ⟨a, ha⟩ := Int.eq_ofNat_of_zero_le (drawV_lo (ns := ns) (a := k) p1)
  have ha2 := drawV_hi (ns := ns) (a := k) p1
  rw [ha] at ha2
  have k1 : 0 ≤ k + 1 := by omega
  have k2 : 0 ≤ k + 2 := by omega
  have e2 : k + 1 + 1 = k + 2 := by omega
  have d1 := drawV_lo (ns := ns) (a := k + 1) (lim := 3) (by decide)
  have d2 := drawV_hi (ns := ns) (a := k + 1) (lim := 3) (by decide)
  have pl : 0 < (ls.length : Int) := by omega
  have pl1 : 0 < (ls.length : Int) + 1 := by omega
  have al : (a : Int) < ls.length := by omega
  have aN : a + 1 < ls.length := by omega
  have hl3 : (1 : Int) < ls.length := by omega
  have plN : 0 < ls.length := by omega
  have z15 : ls.length < 16777216 := by omega
  by_cases w0 : drawV ns (k + 1) 3 = 0
  · refine ⟨(lnV ns (k + 2) ls.length c).2, (M.set n (some (.lst [.int (lnV ns (k + 2) ls.length c).2]))).set j (some (.lst ((ls.set a (lnV ns (k + 2) ls.length c).1).map Ln.d))), j, ls.set a (lnV ns (k + 2) ls.length c).1, some (.d (.int a)), some (.d (.int 0)), by have := lnV_k (ns := ns) (k := k + 2) (many := ls.length) (c := c); omega, (h.take _).wr hj, hj, ?_, g.set aN (lnV_fit pl) lnV_count, by simpa using l3, by simpa using l15, ?_⟩
    · rw [List.getElem?_set_self (by simpa using hjl)]
    · simp -implicitDefEqProofs [lp1__law_plan, hg, hM, sn, sj, F_law_take, F_law_line, h0, hk, p1, ha, k1, k2, e2, w0, plN, al, hl3]
  · have del : ∀ w : Int, drawV ns (k + 1) 3 = w → ¬ (w = 1 ∧ ls.length < 15) → ∃ k' M' j' ls' a8 a9, 0 ≤ k' ∧ At b n k' M' ∧ b.length ≤ j' ∧ M'[j']? = some (some (.lst (List.map Ln.d ls'))) ∧ Good c ls' ∧ 3 ≤ ls'.length ∧ ls'.length ≤ 15 ∧
      lp1__law_plan [some (.d (.lst (ns.map .int))), some (.l n), some (.d (.bl c)), kn, st, mn, kk, some (.l j), x8, x9] M = .nx [some (.d (.lst (ns.map .int))), some (.l n), some (.d (.bl c)), kn, st, mn, kk, some (.l j'), a8, a9] M' := by
      intro w hw hw2
      have w0' : w ≠ 0 := fun e => w0 (hw.trans e)
      have hd : ¬ (w = 1 ∧ (ls.length : Int) < 15) := fun q => hw2 ⟨q.1, by omega⟩
      have hc1 : (w == 1) = true → ¬ ((ls.length : Int) < 15) := fun q r => hd ⟨by simpa using q, r⟩
      have cl : ∀ (xs : List D), cutD xs none (some (a : Int)) = xs.take a := fun xs => cutD_to
      have cr : ∀ (xs : List D), cutD xs (some ((a : Int) + 1)) none = xs.drop (a + 1) := fun xs => cutD_from1
      by_cases l4 : 3 < ls.length
      · have l4' : (3 : Int) < ls.length := by omega
        have dl : (ls.take a).map Ln.d ++ (ls.drop (a + 1)).map Ln.d = (ls.take a ++ ls.drop (a + 1)).map Ln.d := by simp -implicitDefEqProofs
        have hlen : (ls.take a ++ ls.drop (a + 1)).length ≤ 100 := by simp -implicitDefEqProofs; omega
        have hz : min a ls.length + (ls.length - (a + 1)) ≤ 16777216 := by omega
        have hz2 : min a ls.length + (ls.length - (a + 1)) ≤ 100 := by omega
        have hdec : dec lnsL (.lst ((ls.map Ln.d).take a ++ (ls.map Ln.d).drop (a + 1))) = some (ls.take a ++ ls.drop (a + 1)) := by rw [← List.map_take, ← List.map_drop, dl]; exact dec_lnsL _
        refine ⟨k + 2, M.set n (some (.lst [.int (k + 2)])) ++ [some (.lst ((delL ls a).map Ln.d))], M.length, delL ls a, some (.d (.int a)), some (.d (.int w)), k2, (h.take _).app _, h.len, ?_, g.del aN, by rw [delL_len (by omega)]; omega, by rw [delL_len (by omega)]; omega, ?_⟩
        · simp -implicitDefEqProofs
        · by_cases w1 : w = 1
          · have n15 : ¬ ((ls.length : Int) < 15) := fun q => hd ⟨w1, q⟩
            simp -implicitDefEqProofs [lp1__law_plan, hg, hM, sn, sj, F_law_take, F_law_shift, h0, hk, p1, ha, k1, k2, e2, hw, w1, n15, l4', hl3, cl, cr, hz, hz2, hdec, delL]
          · simp -implicitDefEqProofs [lp1__law_plan, hg, hM, sn, sj, F_law_take, F_law_shift, h0, hk, p1, ha, k1, k2, e2, hw, w0', w1, l4', hl3, cl, cr, hz, hz2, hdec, delL]
      · have l4' : ¬ ((3 : Int) < ls.length) := by omega
        refine ⟨k + 2, M.set n (some (.lst [.int (k + 2)])), j, ls, some (.d (.int a)), some (.d (.int w)), k2, h.take _, hj, sj _, g, l3, l15, ?_⟩
        by_cases w1 : w = 1
        · have n15 : ¬ ((ls.length : Int) < 15) := fun q => hd ⟨w1, q⟩
          simp -implicitDefEqProofs [lp1__law_plan, hg, hM, sn, sj, F_law_take, h0, hk, p1, ha, k1, k2, e2, hw, w1, n15, l4', hl3]
        · simp -implicitDefEqProofs [lp1__law_plan, hg, hM, sn, sj, F_law_take, h0, hk, p1, ha, k1, k2, e2, hw, w0', w1, l4', hl3]
    by_cases w1 : drawV ns (k + 1) 3 = 1
    · by_cases h15 : ls.length < 15
      · have i15 : (ls.length : Int) < 15 := by omega
        have cl : ∀ (xs : List D), cutD xs none (some (a : Int)) = xs.take a := fun xs => cutD_to
        have cr : ∀ (xs : List D), cutD xs (some (a : Int)) none = xs.drop a := fun xs => cutD_from
        have hA : ∀ x y z, ((M.set n x).set j y ++ [z])[M.length]? = some z := fun x y z => by
          rw [List.getElem?_append_right (by simp -implicitDefEqProofs)]
          simp -implicitDefEqProofs
        have hB : ∀ x y z, ((M.set n x).set j y ++ [z])[n]? = some x := fun x y z => by
          rw [List.getElem?_append_left (by simpa using hnl), List.getElem?_set_ne hjn]
          exact sn x
        have hC : ∀ x y z u, (((M.set n x).set j y ++ [z]).set n u)[M.length]? = some z := fun x y z u => by
          rw [List.getElem?_set_ne (by omega)]
          exact hA x y z
        have hlen : ls.length ≤ 100 := by omega
        have hz5 : min a ls.length ≤ 16777215 := by omega
        have hz6 : min a ls.length + (ls.length - a) ≤ 16777215 := by omega
        have hz7 : min a ls.length + 1 + (ls.length - a) ≤ 16777216 := by omega
        refine ⟨(lnV ns (k + 2) (ls.length + 1) c).2, (((M.set n (some (.lst [.int (k + 2)]))).set j none ++ [some (Ce.lst ((ls.map (Ln.mv a 1)).map Ln.d))]).set n (some (.lst [.int (lnV ns (k + 2) (ls.length + 1) c).2]))) ++ [some (Ce.lst ((insL ls a (lnV ns (k + 2) (ls.length + 1) c).1).map Ln.d))], M.length + 1, insL ls a (lnV ns (k + 2) (ls.length + 1) c).1, some (.d (.int a)), some (.d (.int 1)), by have := lnV_k (ns := ns) (k := k + 2) (many := ls.length + 1) (c := c); omega, ((((h.take _).wr hj).app _).take _).app _, by have := h.len; omega, ?_, g.ins aN (lnV_fit pl1) lnV_count, by rw [insL_len (by omega)]; omega, by rw [insL_len (by omega)]; omega, ?_⟩
        · rw [List.getElem?_append_right (by simp -implicitDefEqProofs)]
          simp -implicitDefEqProofs
        · simp -implicitDefEqProofs [lp1__law_plan, hg, hM, sn, sj, F_law_take, F_law_line, F_law_shift, h0, hk, p1, ha, k1, k2, e2, w1, pl1, al, hl3, i15, ↓hA, ↓hB, ↓hC, cl, cr, hlen, hz5, hz6, hz7, insL]
      · exact del 1 w1 fun q => h15 q.2
    · exact del _ rfl fun q => w1 q.1
/-- a line put in -/
def padV (w : Int) (a : Nat) : Ln := if w = 0 then .recall else if w = 1 then .note else if w = 2 then .wait else if w = 3 then .go ((a : Int) + 1) else .ok ((a : Int) + 1)
theorem plan_turn2 (h0 : ns ≠ []) (hk : 0 ≤ k) (h : At b n k M) (hj : b.length ≤ j) (hM : M[j]? = some (some (.lst (ls.map Ln.d)))) (g : Good c ls) (l3 : 3 ≤ ls.length) (l15 : ls.length ≤ 15) :
    ∃ k' M' j' ls' a8 a9, 0 ≤ k' ∧ At b n k' M' ∧ b.length ≤ j' ∧ M'[j']? = some (some (.lst (List.map Ln.d ls'))) ∧ Good c ls' ∧ ls'.length = ls.length + 1 ∧
      lp2__law_plan [some (.d (.lst (ns.map .int))), some (.l n), some (.d (.bl c)), kn, st, mn, kk, some (.l j), x8, x9] M = .nx [some (.d (.lst (ns.map .int))), some (.l n), some (.d (.bl c)), kn, st, mn, kk, some (.l j'), a8, a9] M' := by
  have hnj : n ≠ j := fun e => by have := h.lt; omega
  have hjn : j ≠ n := fun e => hnj e.symm
  have hg := h.get
  have hnl : n < M.length := (List.getElem?_eq_some_iff.mp hg).1
  have hjl : j < M.length := (List.getElem?_eq_some_iff.mp hM).1
  have sn : ∀ x, (M.set n x)[n]? = some x := fun x => List.getElem?_set_self hnl
  have sj : ∀ x, (M.set n x)[j]? = some (some (.lst (ls.map Ln.d))) := fun x => by rw [List.getElem?_set_ne hnj]; exact hM
  have p1 : 0 < (ls.length : Int) - 1 := by omega
  obtain ⟨a, ha⟩ := Int.eq_ofNat_of_zero_le (drawV_lo (ns := ns) (a := k) p1)
  have ha2 := drawV_hi (ns := ns) (a := k) p1
  rw [ha] at ha2
  have k1 : 0 ≤ k + 1 := by omega
  have k2 : 0 ≤ k + 2 := by omega
  have e2 : k + 1 + 1 = k + 2 := by omega
  have d1 := drawV_lo (ns := ns) (a := k + 1) (lim := 5) (by decide)
  have d2 := drawV_hi (ns := ns) (a := k + 1) (lim := 5) (by decide)
  have aN : a + 1 < ls.length := by omega
  have hl3 : (1 : Int) < ls.length := by omega
  have cl : ∀ (xs : List D), cutD xs none (some (a : Int)) = xs.take a := fun xs => cutD_to
  have cr : ∀ (xs : List D), cutD xs (some (a : Int)) none = xs.drop a := fun xs => cutD_from
  have hA : ∀ x y z, ((M.set n x).set j y ++ [z])[M.length]? = some z := fun x y z => by
    rw [List.getElem?_append_right (by simp -implicitDefEqProofs)]
    simp -implicitDefEqProofs
  have hB : ∀ x y z, ((M.set n x).set j y ++ [z])[n]? = some x := fun x y z => by
    rw [List.getElem?_append_left (by simpa using hnl), List.getElem?_set_ne hjn]
    exact sn x
  have hC : ∀ x y z u, (((M.set n x).set j y ++ [z]).set n u)[M.length]? = some z := fun x y z u => by
    rw [List.getElem?_set_ne (by omega)]
    exact hA x y z
  have hlen : ls.length ≤ 100 := by omega
  have hz5 : min a ls.length ≤ 16777215 := by omega
  have hz6 : min a ls.length + (ls.length - a) ≤ 16777215 := by omega
  have hz7 : min a ls.length + 1 + (ls.length - a) ≤ 16777216 := by omega
  have hfit : (padV (drawV ns (k + 1) 5) a).fit ((ls.length : Int) + 1) = true := by
    unfold padV
    repeat' split
    all_goals simp -implicitDefEqProofs
    all_goals omega
  have hcn : padV (drawV ns (k + 1) 5) a = .count → c = true := by
    unfold padV
    repeat' split
    all_goals simp -implicitDefEqProofs
  refine ⟨k + 2, (((M.set n (some (.lst [.int (k + 1)]))).set j none ++ [some (Ce.lst ((ls.map (Ln.mv a 1)).map Ln.d))]).set n (some (.lst [.int (k + 2)]))) ++ [some (Ce.lst ((insL ls a (padV (drawV ns (k + 1) 5) a)).map Ln.d))], M.length + 1, insL ls a (padV (drawV ns (k + 1) 5) a), some (.d (.int a)), x9, k2, ((((h.take _).wr hj).app _).take _).app _, by have := h.len; omega, ?_, g.ins aN hfit hcn, by rw [insL_len (by omega)], ?_⟩
  · rw [List.getElem?_append_right (by simp -implicitDefEqProofs)]
    simp -implicitDefEqProofs
  · have hw : drawV ns (k + 1) 5 = 0 ∨ drawV ns (k + 1) 5 = 1 ∨ drawV ns (k + 1) 5 = 2 ∨ drawV ns (k + 1) 5 = 3 ∨ drawV ns (k + 1) 5 = 4 := by omega
    rcases hw with hw | hw | hw | hw | hw <;> simp -implicitDefEqProofs [lp2__law_plan, hg, hM, sn, sj, F_law_take, F_law_shift, h0, hk, p1, ha, k1, k2, e2, hw, hl3, ↓hA, ↓hB, ↓hC, cl, cr, hlen, hz5, hz6, hz7, insL, padV]
end
def PlanDone (b : Mu) (n : Nat) (c : Bool) (r : RS) : Prop := ∃ ls k e M, Good c ls ∧ ls.length ≤ 16 ∧ 0 ≤ k ∧ At b n k M ∧ r = .ret (.d (lnsD ls)) e M
structure PlanSt (b : Mu) (n j : Nat) (k : Int) (c : Bool) (ls : List Ln) (M : Mu) : Prop where
  k0 : 0 ≤ k
  at_ : At b n k M
  jb : b.length ≤ j
  cell : M[j]? = some (some (.lst (ls.map Ln.d)))
  good : Good c ls
  l3 : 3 ≤ ls.length
section
variable {ns : List Int} {b M : Mu} {n j : Nat} {k : Int} {c : Bool} {ls : List Ln} {kn st mn kk x8 x9 : Option Va}
theorem PlanSt.jn (s : PlanSt b n j k c ls M) : j ≠ n := fun e => by have := s.at_.lt; have := s.jb; omega
theorem PlanSt.setn (s : PlanSt b n j k c ls M) (x : Option Ce) : (M.set n x)[j]? = some (some (.lst (ls.map Ln.d))) := by
  rw [List.getElem?_set_ne s.jn.symm]; exact s.cell
theorem PlanSt.take (s : PlanSt b n j k c ls M) (k' : Int) (h : 0 ≤ k') : PlanSt b n j k' c ls (M.set n (some (.lst [.int k']))) :=
  ⟨h, s.at_.take _, s.jb, s.setn _, s.good, s.l3⟩
abbrev planE (ns : List Int) (n : Nat) (c : Bool) (kn st mn kk : Option Va) (j : Nat) (x8 x9 : Option Va) : Env := [some (.d (.lst (ns.map .int))), some (.l n), some (.d (.bl c)), kn, st, mn, kk, some (.l j), x8, x9]
theorem plan_tl1 (h0 : ns ≠ []) (s : PlanSt b n j k c ls M) (l15 : ls.length ≤ 15) : PlanDone b n c (tl1__law_plan (planE ns n c kn st mn kk j x8 x9) M) := by
  have hg := s.at_.get
  have hnl : n < M.length := (List.getElem?_eq_some_iff.mp hg).1
  have sn : ∀ x, (M.set n x)[n]? = some x := fun x => List.getElem?_set_self hnl
  have sj := s.setn
  have hk := s.k0
  have k1 : 0 ≤ k + 1 := by omega
  have k2 : 0 ≤ k + 2 := by omega
  have e2 : k + 1 + 1 = k + 2 := by omega
  have d1 := drawV_lo (ns := ns) (a := k + 1) (lim := 4) (by decide)
  have d2 := drawV_hi (ns := ns) (a := k + 1) (lim := 4) (by decide)
  have l3 := s.l3
  have tup : ∀ {kk x8 x9 : Option Va} {M : Mu} {k : Int} {j : Nat} {ls : List Ln}, PlanSt b n j k c ls M → ls.length ≤ 16 → PlanDone b n c (zRet (xCB oTuple (xCons (xVar 7) xNil)) (planE ns n c kn st mn kk j x8 x9) M) := fun {kk x8 x9 M k j ls} s hl =>
    ⟨ls, k, planE ns n c kn st mn kk j x8 x9, M, s.good, hl, s.k0, s.at_, by
      have hc := s.cell
      have hz : ls.length ≤ 16777216 := by omega
      simp -implicitDefEqProofs [hc, hz]⟩
  by_cases w0 : drawV ns k 4 = 0
  · have hT : 13 + drawV ns (k + 1) 4 - (ls.length : Int) < 4611686018427387904 := by omega
    have hT2 : -4611686018427387904 ≤ 13 + drawV ns (k + 1) 4 - (ls.length : Int) := by omega
    have hx : tl1__law_plan (planE ns n c kn st mn kk j x8 x9) M = (dFor (gN 6) lp2__law_plan (rngD 0 ((13 + drawV ns (k + 1) 4).toNat - ls.length)) (planE ns n c kn st mn kk j x8 x9) (M.set n (some (.lst [.int (k + 2)])))).thn (zRet (xCB oTuple (xCons (xVar 7) xNil))) := by
      simp -implicitDefEqProofs [hg, sn, sj, F_law_take, h0, hk, k1, e2, w0, hT, hT2]
    rw [hx]
    have hT3 : (13 + drawV ns (k + 1) 4).toNat ≤ 16 := by omega
    refine dFor_rule (fun r => PlanDone b n c (r.thn (zRet (xCB oTuple (xCons (xVar 7) xNil))))) (fun i e M => ∃ k' j ls' kk x8 x9, PlanSt b n j k' c ls' M ∧ ls'.length + ((13 + drawV ns (k + 1) 4).toNat - ls.length) = (13 + drawV ns (k + 1) 4).toNat - ls.length + ls.length + i ∧ e = planE ns n c kn st mn kk j x8 x9) ⟨k + 2, j, ls, kk, x8, x9, s.take _ k2, by omega, rfl⟩ ?_ ?_
    · rintro i x e M hxi ⟨k, j, ls', kk, x8, x9, s, hl, rfl⟩
      obtain ⟨hi, rfl⟩ := rngD_get hxi
      obtain ⟨k', M', j', ls2, a8, a9, q1, q2, q3, q4, q5, q6, q7⟩ := plan_turn2 (kn := kn) (st := st) (mn := mn) (kk := some (.d (.int (0 + (i : Nat))))) (x8 := x8) (x9 := x9) h0 s.k0 s.at_ s.jb s.cell s.good s.l3 (by omega)
      have l3' := s.l3
      show TurnP _ _ (lp2__law_plan [_, _, _, _, _, _, some (.d (.int (0 + (i : Nat)))), _, _, _] M)
      rw [q7]
      exact ⟨k', j', ls2, _, a8, a9, ⟨q1, q2, q3, q4, q5, by omega⟩, by omega, rfl⟩
    · rintro e M ⟨k, j, ls', kk, x8, x9, s, hl, rfl⟩
      rw [rngD_len] at hl
      exact tup s (by omega)
  · have hx : tl1__law_plan (planE ns n c kn st mn kk j x8 x9) M = zRet (xCB oTuple (xCons (xVar 7) xNil)) (planE ns n c kn st mn kk j x8 x9) (M.set n (some (.lst [.int (k + 1)]))) := by
      simp -implicitDefEqProofs [hg, sn, sj, F_law_take, h0, hk, k1, e2, w0]
    rw [hx]
    exact tup (s.take _ k1) (by omega)
theorem plan_tl2 (h0 : ns ≠ []) (s : PlanSt b n j k c ls M) (l15 : ls.length ≤ 13) : PlanDone b n c (tl2__law_plan (planE ns n c kn st mn kk j x8 x9) M) := by
  have hg := s.at_.get
  have hnl : n < M.length := (List.getElem?_eq_some_iff.mp hg).1
  have sn : ∀ x, (M.set n x)[n]? = some x := fun x => List.getElem?_set_self hnl
  have hk := s.k0
  have k1 : 0 ≤ k + 1 := by omega
  have d1 := drawV_lo (ns := ns) (a := k) (lim := 4) (by decide)
  have d2 := drawV_hi (ns := ns) (a := k) (lim := 4) (by decide)
  have hw : drawV ns k 4 = 0 ∨ drawV ns k 4 = 1 ∨ drawV ns k 4 = 2 ∨ drawV ns k 4 = 3 := by omega
  have hx : ∃ T, T ≤ 2 ∧ tl2__law_plan (planE ns n c kn st mn kk j x8 x9) M = (dFor (gN 6) lp1__law_plan (rngD 0 T) (planE ns n c kn st mn kk j x8 x9) (M.set n (some (.lst [.int (k + 1)])))).thn tl1__law_plan := by
    rcases hw with hw | hw | hw | hw
    · exact ⟨0, by omega, by simp -implicitDefEqProofs [hg, sn, F_law_take, h0, hk, hw, -s_tl1__law_plan, rngD]⟩
    · exact ⟨0, by omega, by simp -implicitDefEqProofs [hg, sn, F_law_take, h0, hk, hw, -s_tl1__law_plan, rngD]⟩
    · exact ⟨1, by omega, by simp -implicitDefEqProofs [hg, sn, F_law_take, h0, hk, hw, -s_tl1__law_plan, -s_for1]⟩
    · exact ⟨2, by omega, by simp -implicitDefEqProofs [hg, sn, F_law_take, h0, hk, hw, -s_tl1__law_plan, -s_for1]⟩
  obtain ⟨T, hT, hx⟩ := hx
  rw [hx]
  refine dFor_rule (fun r => PlanDone b n c (r.thn tl1__law_plan)) (fun i e M => ∃ k j ls kk x8 x9, PlanSt b n j k c ls M ∧ ls.length ≤ 15 ∧ e = planE ns n c kn st mn kk j x8 x9) ⟨k + 1, j, ls, kk, x8, x9, s.take _ k1, by omega, rfl⟩ ?_ ?_
  · rintro i x e M hxi ⟨k, j, ls', kk, x8, x9, s, hl, rfl⟩
    obtain ⟨k', M', j', ls2, a8, a9, q1, q2, q3, q4, q5, q6, q8, q7⟩ := plan_turn1 (kn := kn) (st := st) (mn := mn) (kk := some x) (x8 := x8) (x9 := x9) h0 s.k0 s.at_ s.jb s.cell s.good s.l3 hl
    show TurnP _ _ (lp1__law_plan [_, _, _, _, _, _, some x, _, _, _] M)
    rw [q7]
    exact ⟨k', j', ls2, _, a8, a9, ⟨q1, q2, q3, q4, q5, q6⟩, q8, rfl⟩
  · rintro e M ⟨k, j, ls', kk, x8, x9, s, hl, rfl⟩
    exact plan_tl1 h0 s hl
theorem known_good (c : Bool) {ls : List Ln} (h : ls ∈ knownV) (hc : c = true ∨ cntL ls = false) : Good c ls ∧ 3 ≤ ls.length ∧ ls.length ≤ 13 := by
  have key : knownV.all (fun ls => goodB true ls && (cntL ls || goodB false ls) && decide (3 ≤ ls.length) && decide (ls.length ≤ 13)) = true := by decide
  have := List.all_eq_true.mp key ls h
  simp -implicitDefEqProofs only [Bool.and_eq_true, decide_eq_true_eq] at this
  obtain ⟨⟨⟨h1, h2⟩, h3⟩, h4⟩ := this
  refine ⟨?_, h3, h4⟩
  rcases hc with rfl | hc
  · exact goodB_ok h1
  · rw [hc] at h2
    have g := goodB_ok h2
    exact ⟨g.fit, g.last, fun a ha e => by have := g.cnt a ha e; cases this⟩
theorem plan_tl4 (h0 : ns ≠ []) (hk : 0 ≤ k) (h : At (b ++ [some knD]) n k M) (hn : n < b.length) (x7 : Option Va) : PlanDone (b ++ [some knD]) n c (tl4__law_plan [some (.d (.lst (ns.map .int))), some (.l n), some (.d (.bl c)), some (.l b.length), st, mn, kk, x7, x8, x9] M) := by
  have hg := h.get
  have hnl : n < M.length := (List.getElem?_eq_some_iff.mp hg).1
  have sn : ∀ x, (M.set n x)[n]? = some x := fun x => List.getElem?_set_self hnl
  have kc := h.up hn
  have skc : ∀ x, (M.set n x)[b.length]? = some (some knD) := fun x => by rw [List.getElem?_set_ne (by omega)]; exact kc
  have hbl := h.len
  have k1 : 0 ≤ k + 1 := by omega
  have d1 := drawV_lo (ns := ns) (a := k) (lim := 6) (by decide)
  have d2 := drawV_hi (ns := ns) (a := k) (lim := 6) (by decide)
  obtain ⟨w, hw⟩ := Int.eq_ofNat_of_zero_le d1
  have hw6 : w < 6 := by omega
  have hw7 : w < knownV.length := hw6
  have hat : atI (knownV.map lnsD) (w : Int) = some (lnsD (knownV[w]'hw7)) := by
    rw [atI_nat (by simpa using hw7)]
    simp -implicitDefEqProofs
  have hat2 : atI (knownV.map lnsD) 2 = some (lnsD (knownV[2]'(by decide))) := rfl
  have hx : tl4__law_plan [some (.d (.lst (ns.map .int))), some (.l n), some (.d (.bl c)), some (.l b.length), st, mn, kk, x7, x8, x9] M = tl3__law_plan (planE ns n c (some (.l b.length)) st mn kk M.length x8 x9) (M.set n (some (.lst [.int (k + 1)])) ++ [some (.lst ((knownV[w]'hw7).map Ln.d))]) := by
    simp -implicitDefEqProofs [hg, sn, skc, knD, F_law_take, h0, hk, hw, ↓hat, -s_tl3__law_plan]
  rw [hx]
  have hm : knownV[w]'hw7 ∈ knownV := List.getElem_mem hw7
  generalize knownV[w]'hw7 = ls at hm
  have st1 : At (b ++ [some knD]) n (k + 1) (M.set n (some (.lst [.int (k + 1)])) ++ [some (.lst (ls.map Ln.d))]) := (h.take _).app _
  have hcell : ∀ z, (M.set n (some (.lst [.int (k + 1)])) ++ [some (.lst (ls.map Ln.d))] ++ [z])[M.length + 1]? = some z := fun z => by
    rw [List.getElem?_append_right (by simp -implicitDefEqProofs)]
    simp -implicitDefEqProofs
  have hc2 : (M.set n (some (.lst [.int (k + 1)])) ++ [some (.lst (ls.map Ln.d))])[M.length]? = some (some (.lst (ls.map Ln.d))) := by
    rw [List.getElem?_append_right (by simp -implicitDefEqProofs)]
    simp -implicitDefEqProofs
  have hc3 : (M.set n (some (.lst [.int (k + 1)])) ++ [some (.lst (ls.map Ln.d))])[b.length]? = some (some knD) := by
    rw [List.getElem?_append_left (by simp -implicitDefEqProofs at hbl ⊢; omega)]
    exact skc _
  by_cases q : c = false ∧ cntL ls = true
  · obtain ⟨q1, q2⟩ := q
    subst q1
    have hx2 : tl3__law_plan (planE ns n false (some (.l b.length)) st mn kk M.length x8 x9) (M.set n (some (.lst [.int (k + 1)])) ++ [some (.lst (ls.map Ln.d))]) = tl2__law_plan (planE ns n false (some (.l b.length)) st mn kk (M.length + 1) x8 x9) (M.set n (some (.lst [.int (k + 1)])) ++ [some (.lst (ls.map Ln.d))] ++ [some (.lst ((knownV[2]'(by decide)).map Ln.d))]) := by
      simp -implicitDefEqProofs at q2
      simp -implicitDefEqProofs [↓hc2, ↓hc3, knD, q2, ↓hat2, -s_tl2__law_plan]
    rw [hx2]
    obtain ⟨g1, g2, g3⟩ := known_good false (ls := knownV[2]'(by decide)) (List.getElem_mem _) (.inr rfl)
    exact plan_tl2 h0 ⟨k1, st1.app _, by simp -implicitDefEqProofs at hbl ⊢; omega, hcell _, g1, g2⟩ g3
  · have hx2 : tl3__law_plan (planE ns n c (some (.l b.length)) st mn kk M.length x8 x9) (M.set n (some (.lst [.int (k + 1)])) ++ [some (.lst (ls.map Ln.d))]) = tl2__law_plan (planE ns n c (some (.l b.length)) st mn kk M.length x8 x9) (M.set n (some (.lst [.int (k + 1)])) ++ [some (.lst (ls.map Ln.d))]) := by
      cases c
      · have q2 : cntL ls = false := by simpa using q
        simp -implicitDefEqProofs at q2
        simp -implicitDefEqProofs [↓hc2, q2, -s_tl2__law_plan]
      · simp -implicitDefEqProofs [-s_tl2__law_plan]
    rw [hx2]
    have hc : c = true ∨ cntL ls = false := by
      cases c
      · exact .inr (by simpa using q)
      · exact .inl rfl
    obtain ⟨g1, g2, g3⟩ := known_good c hm hc
    exact plan_tl2 h0 ⟨k1, st1, by simpa using hbl, hc2, g1, g2⟩ g3
theorem lines_drawn (h0 : ns ≠ []) {many : Int} (hm : 0 < many) {e : Env} (he : ∀ y, tN 6 y e = [some (.d (.lst (ns.map .int))), some (.l n), some (.d (.bl c)), kn, st, some (.d (.int many)), some y, kk, x8, x9]) : ∀ (xs : List Va) (M : Mu) (k : Int) (acc : List Ln), 0 ≤ k → At b n k M → acc.length + xs.length ≤ 100 →
    ∃ (rs : List Ln) (k' : Int) (M' : Mu), rs.length = xs.length ∧ 0 ≤ k' ∧ At b n k' M' ∧ (∀ a ∈ rs, a.fit many = true ∧ (a = .count → c = true)) ∧ dLc (tN 6) pYes (xCallS 4 F_law_line (xCons (xVar 0) (xCons (xVar 1) (xCons (xVar 5) (xCons (xVar 2) (xNil)))))) e xs M (acc.map Ln.d) = .ok ((acc ++ rs).map Ln.d) M'
  | [], M, k, acc, hk, h, hz => by
    refine ⟨[], k, M, rfl, hk, h, ?_, ?_⟩
    · intro a ha
      cases ha
    · simp -implicitDefEqProofs
  | y :: xs, M, k, acc, hk, h, hz => by
    have hg := h.get
    have hk2 := lnV_k (ns := ns) (k := k) (many := many) (c := c)
    obtain ⟨rs, k', M', q1, q2, q3, q4, q5⟩ := lines_drawn h0 hm he xs (M.set n (some (.lst [.int (lnV ns k many c).2]))) (lnV ns k many c).2 (acc ++ [(lnV ns k many c).1]) (by omega) (h.take _) (by simp -implicitDefEqProofs at hz ⊢; omega)
    refine ⟨(lnV ns k many c).1 :: rs, k', M', by simp -implicitDefEqProofs [q1], q2, q3, fun a ha => ?_, ?_⟩
    · rcases List.mem_cons.mp ha with rfl | ha
      · exact ⟨lnV_fit hm, lnV_count⟩
      · exact q4 a ha
    · have hz2 : acc.length < 16777216 := by simp -implicitDefEqProofs at hz; omega
      have e1 : acc ++ (lnV ns k many c).1 :: rs = acc ++ [(lnV ns k many c).1] ++ rs := by simp -implicitDefEqProofs
      rw [e1, ← q5]
      simp -implicitDefEqProofs [he, hg, F_law_line, h0, hk, hm, hz2]
theorem plan_tl6 (h0 : ns ≠ []) (hk : 0 ≤ k) (h : At (b ++ [some knD]) n k M) (hn : n < b.length) (x4 x5 x6 x7 : Option Va) : PlanDone (b ++ [some knD]) n c (tl6__law_plan [some (.d (.lst (ns.map .int))), some (.l n), some (.d (.bl c)), some (.l b.length), x4, x5, x6, x7, x8, x9] M) := by
  have hg := h.get
  have hnl : n < M.length := (List.getElem?_eq_some_iff.mp hg).1
  have sn : ∀ x, (M.set n x)[n]? = some x := fun x => List.getElem?_set_self hnl
  have k1 : 0 ≤ k + 1 := by omega
  have k2 : 0 ≤ k + 2 := by omega
  have e2 : k + 1 + 1 = k + 2 := by omega
  by_cases w0 : drawV ns k 4 = 0
  · have d1 := drawV_lo (ns := ns) (a := k + 1) (lim := 16) (by decide)
    have d2 := drawV_hi (ns := ns) (a := k + 1) (lim := 16) (by decide)
    obtain ⟨w, hw⟩ := Int.eq_ofNat_of_zero_le d1
    have hw16 : w < 16 := by omega
    have pm : (0 : Int) < 1 + (w : Int) := by omega
    obtain ⟨rs, k', M', q1, q2, q3, q4, q5⟩ := lines_drawn (kn := some (.l b.length)) (st := some (.d (.int 0))) (kk := x7) (x8 := x8) (x9 := x9) (c := c) h0 pm (e := [some (.d (.lst (ns.map .int))), some (.l n), some (.d (.bl c)), some (.l b.length), some (.d (.int 0)), some (.d (.int (1 + (w : Int)))), none, x7, x8, x9]) (fun y => rfl) (rngD 0 (1 + w)) (M.set n (some (.lst [.int (k + 2)]))) (k + 2) [] k2 (h.take _) (by simp -implicitDefEqProofs; omega)
    have hg' := q3.get
    have hnl' : n < M'.length := (List.getElem?_eq_some_iff.mp hg').1
    rw [rngD_len] at q1
    have hT : (1 + (w : Int)).toNat = 1 + w := by omega
    have hT2 : (1 + (w : Int)) < 4611686018427387904 := by omega
    have hT3 : -4611686018427387904 ≤ (1 + (w : Int)) := by omega
    have hcw : (M' ++ [some (Ce.lst (rs.map Ln.d))])[M'.length]? = some (some (.lst (rs.map Ln.d))) := by
      rw [List.getElem?_append_right (by simp -implicitDefEqProofs)]
      simp -implicitDefEqProofs
    have hcn : (M' ++ [some (Ce.lst (rs.map Ln.d))])[n]? = some (some (.lst [.int k'])) := by
      rw [List.getElem?_append_left hnl']
      exact hg'
    have hnl2 : n < (M' ++ [some (Ce.lst (rs.map Ln.d))]).length := by simp -implicitDefEqProofs; omega
    have sn2 : ∀ x, ((M' ++ [some (Ce.lst (rs.map Ln.d))]).set n x)[n]? = some x := fun x => List.getElem?_set_self hnl2
    have sw2 : ∀ x, ((M' ++ [some (Ce.lst (rs.map Ln.d))]).set n x)[M'.length]? = some (some (.lst (rs.map Ln.d))) := fun x => by
      rw [List.getElem?_set_ne (by omega)]
      exact hcw
    have hbl := q3.len
    have k1' : 0 ≤ k' + 1 := by omega
    have k2' : 0 ≤ k' + 2 := by omega
    have e2' : k' + 1 + 1 = k' + 2 := by omega
    have hrl : rs.length = w + 1 := by omega
    have iw : (1 + (w : Int) - 1) = w := by omega
    have iw2 : (w : Int) < (w : Int) + 1 := by omega
    have fin : ∀ l : Ln, l.last = true → l.fit (1 + (w : Int)) = true → l ≠ .count → Good c (rs.set w l) := fun l hl hf hc => by
      have hlen : (rs.set w l).length = w + 1 := by rw [List.length_set, hrl]
      refine ⟨fun a ha => ?_, ⟨l, ?_, hl⟩, fun a ha e => ?_⟩
      · have hi : (((rs.set w l).length : Nat) : Int) = 1 + (w : Int) := by rw [hlen]; omega
        rw [hi]
        rcases List.mem_or_eq_of_mem_set ha with q | q
        · exact (q4 a q).1
        · rw [q]; exact hf
      · rw [List.getLast?_eq_getElem?, hlen, Nat.add_sub_cancel, List.getElem?_set_self (by omega)]
      · rcases List.mem_or_eq_of_mem_set ha with q | q
        · exact (q4 a q).2 e
        · exact absurd (q.symm.trans e) hc
    have d3 := drawV_lo (ns := ns) (a := k' + 1) pm
    have d4 := drawV_hi (ns := ns) (a := k' + 1) pm
    simp -implicitDefEqProofs only [List.map_nil, List.nil_append] at q5
    have hset : ∀ l : Ln, (rs.map Ln.d).set w l.d = (rs.set w l).map Ln.d := fun l => by rw [List.map_set]
    have ein : ∀ x, ((M' ++ [some (Ce.lst (rs.map Ln.d))]).set n x).length = M'.length + 1 := fun x => by simp -implicitDefEqProofs
    by_cases v0 : 0 < drawV ns k' 3
    · refine ⟨rs.set w .end_, k' + 1, [some (.d (.lst (ns.map .int))), some (.l n), some (.d (.bl c)), some (.l b.length), some (.d (.int 0)), some (.d (.int (1 + (w : Int)))), x6, some (.l M'.length), x8, x9], ((M' ++ [some (Ce.lst (rs.map Ln.d))]).set n (some (.lst [.int (k' + 1)]))).set M'.length (some (.lst ((rs.set w .end_).map Ln.d))), fin .end_ rfl rfl (by simp -implicitDefEqProofs), by rw [List.length_set]; omega, k1', ((q3.app _).take _).wr (by simp -implicitDefEqProofs at hbl ⊢; omega), ?_⟩
      have hz : rs.length ≤ 16777216 := by omega
      have hgs : (((M' ++ [some (Ce.lst (rs.map Ln.d))]).set n (some (.lst [.int (k' + 1)]))).set M'.length (some (.lst ((rs.set w .end_).map Ln.d))))[M'.length]? = some (some (.lst ((rs.set w .end_).map Ln.d))) := List.getElem?_set_self (by rw [ein]; omega)
      simp -implicitDefEqProofs only [List.map_set, ln_end, ln_go] at hgs
      simp -implicitDefEqProofs [hg, sn, F_law_take, h0, hk, k1, e2, w0, hw, hT, hT2, hT3, q5, ↓hcn, ↓hcw, ↓sw2, ↓sn2, v0, k1', q2, iw, hrl, iw2, ↓hgs, hz, pm]
    · refine ⟨rs.set w (.go (drawV ns (k' + 1) (1 + (w : Int)))), k' + 2, [some (.d (.lst (ns.map .int))), some (.l n), some (.d (.bl c)), some (.l b.length), some (.d (.int 0)), some (.d (.int (1 + (w : Int)))), x6, some (.l M'.length), x8, x9], ((M' ++ [some (Ce.lst (rs.map Ln.d))]).set n (some (.lst [.int (k' + 2)]))).set M'.length (some (.lst ((rs.set w (.go (drawV ns (k' + 1) (1 + (w : Int))))).map Ln.d))), fin _ rfl (by simp -implicitDefEqProofs; omega) (by simp -implicitDefEqProofs), by rw [List.length_set]; omega, k2', ((q3.app _).take _).wr (by simp -implicitDefEqProofs at hbl ⊢; omega), ?_⟩
      have hz : rs.length ≤ 16777216 := by omega
      have hgs : (((M' ++ [some (Ce.lst (rs.map Ln.d))]).set n (some (.lst [.int (k' + 2)]))).set M'.length (some (.lst ((rs.set w (.go (drawV ns (k' + 1) (1 + (w : Int))))).map Ln.d))))[M'.length]? = some (some (.lst ((rs.set w (.go (drawV ns (k' + 1) (1 + (w : Int))))).map Ln.d))) := List.getElem?_set_self (by rw [ein]; omega)
      simp -implicitDefEqProofs only [List.map_set, ln_end, ln_go] at hgs
      simp -implicitDefEqProofs [hg, sn, F_law_take, h0, hk, k1, e2, w0, hw, hT, hT2, hT3, q5, ↓hcn, ↓hcw, ↓sw2, ↓sn2, v0, k1', e2', q2, iw, hrl, iw2, ↓hgs, hz, pm]
  · have hx : tl6__law_plan [some (.d (.lst (ns.map .int))), some (.l n), some (.d (.bl c)), some (.l b.length), x4, x5, x6, x7, x8, x9] M = tl4__law_plan [some (.d (.lst (ns.map .int))), some (.l n), some (.d (.bl c)), some (.l b.length), some (.d (.int (drawV ns k 4))), x5, x6, x7, x8, x9] (M.set n (some (.lst [.int (k + 1)]))) := by
      simp -implicitDefEqProofs [hg, F_law_take, h0, hk, w0, -s_tl4__law_plan]
    rw [hx]
    exact plan_tl4 h0 k1 (h.take _) hn _
theorem plan_tl7 (h0 : ns ≠ []) (hk : 0 ≤ k) (h : At (b ++ [some knD]) n k M) (hn : n < b.length) : PlanDone (b ++ [some knD]) n c (tl7__law_plan [some (.d (.lst (ns.map .int))), some (.l n), some (.d (.bl c)), some (.l b.length), none, none, none, none, none, none] M) := by
  have hg := h.get
  have hnl : n < M.length := (List.getElem?_eq_some_iff.mp hg).1
  have sn : ∀ x, (M.set n x)[n]? = some x := fun x => List.getElem?_set_self hnl
  have k1 : 0 ≤ k + 1 := by omega
  have k2 : 0 ≤ k + 2 := by omega
  have e2 : k + 1 + 1 = k + 2 := by omega
  cases c with
  | false =>
    have hx : tl7__law_plan [some (.d (.lst (ns.map .int))), some (.l n), some (.d (.bl false)), some (.l b.length), none, none, none, none, none, none] M = tl6__law_plan [some (.d (.lst (ns.map .int))), some (.l n), some (.d (.bl false)), some (.l b.length), none, none, none, none, none, none] M := by
      simp -implicitDefEqProofs [-s_tl6__law_plan]
    rw [hx]
    exact plan_tl6 h0 hk h hn _ _ _ _
  | true =>
    by_cases w0 : drawV ns k 12 = 0
    · have d1 := drawV_lo (ns := ns) (a := k + 1) (lim := 3) (by decide)
      have d2 := drawV_hi (ns := ns) (a := k + 1) (lim := 3) (by decide)
      have hw : drawV ns (k + 1) 3 = 0 ∨ drawV ns (k + 1) 3 = 1 ∨ drawV ns (k + 1) 3 = 2 := by omega
      rcases hw with hw | hw | hw
      · exact ⟨[.count, .ok 3, .note, .done 8, .add, .send, .wait, .go 0, .end_], k + 2, _, _, goodB_ok rfl, by decide, k2, h.take _, by simp -implicitDefEqProofs [hg, sn, F_law_take, h0, hk, k1, e2, w0, hw]; exact rfl⟩
      · exact ⟨[.count, .ok 3, .note, .done 8, .add, .send, .wait, .go 0, .end_], k + 2, _, _, goodB_ok rfl, by decide, k2, h.take _, by simp -implicitDefEqProofs [hg, sn, F_law_take, h0, hk, k1, e2, w0, hw]; exact rfl⟩
      · exact ⟨[.count, .ok 3, .note, .done 8, .add, .send, .wait, .go 3, .end_], k + 2, _, _, goodB_ok rfl, by decide, k2, h.take _, by simp -implicitDefEqProofs [hg, sn, F_law_take, h0, hk, k1, e2, w0, hw]; exact rfl⟩
    · have hx : tl7__law_plan [some (.d (.lst (ns.map .int))), some (.l n), some (.d (.bl true)), some (.l b.length), none, none, none, none, none, none] M = tl6__law_plan [some (.d (.lst (ns.map .int))), some (.l n), some (.d (.bl true)), some (.l b.length), none, none, none, none, none, none] (M.set n (some (.lst [.int (k + 1)]))) := by
        simp -implicitDefEqProofs [hg, F_law_take, h0, hk, w0, -s_tl6__law_plan]
      rw [hx]
      exact plan_tl6 h0 k1 (h.take _) hn _ _ _ _
end
theorem plan_ex (ns : List Int) (n : Nat) (k : Int) (c : Bool) (m : Mu) (h0 : ns ≠ []) (hk : 0 ≤ k) (hm : m[n]? = some (some (.lst [.int k]))) :
    ∃ q : List Ln × Int, Good c q.1 ∧ q.1.length ≤ 16 ∧ 0 ≤ q.2 ∧ OutS m (g__law_plan (startD 10 [.d (.lst (ns.map .int)), .l n, .d (.bl c)]) m) (.ok (.d (lnsD q.1)) (m.set n (some (.lst [.int q.2])))) := by
  have hb := At.base hm
  have hn := hb.lt
  have h2 : At (m ++ [some knD]) n k (m ++ [some knD]) := At.base (by rw [List.getElem?_append_left hn]; exact hm)
  obtain ⟨ls, k', e, M, q1, q2, q3, q4, q5⟩ := plan_tl7 (c := c) h0 hk h2 hn
  refine ⟨(ls, k'), q1, q2, q3, ?_⟩
  rw [known_head, q5]
  exact ⟨rfl, (q4.down hn).cut⟩
open Classical in
noncomputable def planV (ns : List Int) (n : Nat) (k : Int) (c : Bool) (m : Mu) : List Ln × Int := if h : ns ≠ [] ∧ 0 ≤ k ∧ m[n]? = some (some (.lst [.int k])) then (plan_ex ns n k c m h.1 h.2.1 h.2.2).choose else ([], 0)
theorem planV_at {ns : List Int} {n : Nat} {k : Int} {c : Bool} {m : Mu} (h0 : ns ≠ []) (hk : 0 ≤ k) (hm : m[n]? = some (some (.lst [.int k]))) : Good c (planV ns n k c m).1 ∧ (planV ns n k c m).1.length ≤ 16 ∧ 0 ≤ (planV ns n k c m).2 ∧ OutS m (g__law_plan (startD 10 [.d (.lst (ns.map .int)), .l n, .d (.bl c)]) m) (.ok (.d (lnsD (planV ns n k c m).1)) (m.set n (some (.lst [.int (planV ns n k c m).2])))) := by
  unfold planV
  rw [dif_pos ⟨h0, hk, hm⟩]
  exact (plan_ex ns n k c m h0 hk hm).choose_spec
noncomputable def F_law_plan : List Va → Mu → R Va := fun as m => match as with
  | [.d (.lst r), .l n, .d (.bl c)] => (match intsOf r, m[n]? with
    | some ns, some (some (.lst [.int k])) => if ns ≠ [] ∧ 0 ≤ k then .ok (.d (lnsD (planV ns n k c m).1)) (m.set n (some (.lst [.int (planV ns n k c m).2]))) else .stuck
    | _, _ => .stuck)
  | _ => .stuck
theorem F_law_plan_at {ns : List Int} {n : Nat} {k : Int} {c : Bool} {m : Mu} (h0 : ns ≠ []) (hk : 0 ≤ k) (hm : m[n]? = some (some (.lst [.int k]))) : ∃ ls k', Fits ls ∧ (cntL ls = true → c = true) ∧ 0 ≤ k' ∧ F_law_plan [.d (.lst (ns.map .int)), .l n, .d (.bl c)] m = .ok (.d (lnsD ls)) (m.set n (some (.lst [.int k']))) := by
  obtain ⟨g, hl, k2, _⟩ := planV_at (c := c) h0 hk hm
  refine ⟨(planV ns n k c m).1, (planV ns n k c m).2, g.fits hl, fun h => g.cnt .count (by simpa using h) rfl, k2, ?_⟩
  simp -implicitDefEqProofs [F_law_plan, hm, h0, hk]
theorem eq_law_plan : ∀ as m, as.length = 3 → F_law_plan as m ≠ .stuck → OutS m (g__law_plan (startD 10 as) m) (F_law_plan as m) := by
  intro as m hl3 h
  unfold F_law_plan at h ⊢
  split at h <;> try exact absurd rfl h
  rename_i r n c
  split at h <;> try exact absurd rfl h
  rename_i ns k e1 e2
  have er := intsOf_eq e1
  subst er
  split at h <;> try exact absurd rfl h
  rename_i hc
  rw [if_pos hc]
  exact (planV_at hc.1 hc.2 e2).2.2.2
theorem ok_law_plan {P : Program} {w : World} {K : PySem.W.Frag} {mg : Str → Option Value} {base : Heap} (d : DefOk K mg "_law_plan" "_law_plan" "_law_plan" (top 28)) (h__law_take : FnS P w K mg base 2 "_law_take" 3 F_law_take) (m_range : mg "range" = none) (h__law_line : FnS P w K mg base 3 "_law_line" 4 F_law_line) (m_tuple : mg "tuple" = none) (m_list : mg "list" = none) (m_len : mg "len" = none) (h__law_shift : FnS P w K mg base 1 "_law_shift" 3 F_law_shift) : FnS P w K mg base 4 "_law_plan" 3 F_law_plan :=
  okS d sc__law_plan rfl (fun _ _ _ _ _ _ us hl => match us, hl with | [_, _, _], _ => rfl) (sb__law_plan h__law_take m_range h__law_line m_tuple m_list m_len h__law_shift) eq_law_plan
end DL
set_option maxHeartbeats 4000000
namespace DL
open PySem PySem.Spec PyProof.Rows L2
/-! ### _law_case -/
abbrev nm__law_case : List Str := ["row", "spot", "printer"]
abbrev ps__law_case : List Str := ["row", "spot"]
theorem sc__law_case : FnScope nm__law_case ps__law_case (defScope (top 29)) := ⟨rfl, rfl, rfl, by decide +kernel, rfl, by decide +kernel, by decide +kernel⟩
theorem nd__law_case : nm__law_case.Nodup := sc__law_case.nd
noncomputable def g__law_case : Env → Mu → RS :=
  zSeq (zAsg (xCallS 2 F_law_printer (xCons (xVar 0) (xCons (xVar 1) (xNil)))) (gN 2))
  (zRet (xTup (xCons (xVar 2) (xCons (xCallS 3 F_law_plan (xCons (xVar 0) (xCons (xVar 1) (xCons (xBin oIx (xVar 2) (xC (.int 0))) (xNil))))) (xNil)))))
theorem sb__law_case {P : Program} {w : World} {K : PySem.W.Frag} {mg : Str → Option Value} {base : Heap} (h__law_printer : FnS P w K mg base 3 "_law_printer" 2 F_law_printer) (h__law_plan : FnS P w K mg base 4 "_law_plan" 3 F_law_plan) : ∀ (f : Addr) cd A outer s H E, Cok (cxD P w K mg base nm__law_case "_law_case" (defScope (top 29)) f cd A outer s H E) (fun c d _ H => E c d H) 4 → SB (cxD P w K mg base nm__law_case "_law_case" (defScope (top 29)) f cd A outer s H E) (fun c d _ H => E c d H) (defBody (top 29)) g__law_case := fun f cd A outer s H E C =>
  (sb_cons (ss_set (i := 2) nd__law_case rfl (.inl rfl) (se_callS h__law_printer (C.hr.mono (by first | decide | omega)) C.tk rfl (sa_cons (se_var 0 rfl (.inl rfl)) (sa_cons (se_var 1 rfl (.inl rfl)) sa_nil))))
  (sb_one (ss_ret (se_tup (sa_cons (se_var 2 rfl (.inl rfl)) (sa_cons (se_callS h__law_plan (C.hr.mono (by first | decide | omega)) C.tk rfl (sa_cons (se_var 0 rfl (.inl rfl)) (sa_cons (se_var 1 rfl (.inl rfl)) (sa_cons (se_ix (se_var 2 rfl (.inl rfl)) se_int (fun _ _ => rfl)) sa_nil)))) sa_nil))))))
-- kind: S
noncomputable def caseV (ns : List Int) (n : Nat) (k : Int) (m : Mu) : List Ln × Int := planV ns n (k + 3) (prV ns k).c (m.set n (some (.lst [.int (k + 3)])))
noncomputable def F_law_case : List Va → Mu → R Va := fun as m => match as with
  | [.d (.lst r), .l n] => (match intsOf r, m[n]? with
    | some ns, some (some (.lst [.int k])) => if ns ≠ [] ∧ 0 ≤ k then .ok (.d (csD (prV ns k, (caseV ns n k m).1))) (m.set n (some (.lst [.int (caseV ns n k m).2]))) else .stuck
    | _, _ => .stuck)
  | _ => .stuck
theorem F_law_case_at {ns : List Int} {n : Nat} {k : Int} {m : Mu} (h0 : ns ≠ []) (hk : 0 ≤ k) (hm : m[n]? = some (some (.lst [.int k]))) : ∃ p ls k', Fits ls ∧ (cntL ls = true → p.c = true) ∧ 0 ≤ k' ∧ F_law_case [.d (.lst (ns.map .int)), .l n] m = .ok (.d (csD (p, ls))) (m.set n (some (.lst [.int k']))) := by
  have hn : n < m.length := (List.getElem?_eq_some_iff.mp hm).1
  have hm2 : (m.set n (some (.lst [.int (k + 3)])))[n]? = some (some (.lst [.int (k + 3)])) := List.getElem?_set_self hn
  obtain ⟨g, hl, k2, _⟩ := planV_at (c := (prV ns k).c) h0 (show 0 ≤ k + 3 by omega) hm2
  refine ⟨prV ns k, (caseV ns n k m).1, (caseV ns n k m).2, g.fits hl, fun h => g.cnt .count (by simpa [caseV] using h) rfl, k2, ?_⟩
  simp -implicitDefEqProofs [F_law_case, hm, h0, hk]
theorem eq_law_case : ∀ as m, as.length = 2 → F_law_case as m ≠ .stuck → OutS m (g__law_case (startD 3 as) m) (F_law_case as m) := by
  intro as m hl3 h
  unfold F_law_case at h ⊢
  split at h <;> try exact absurd rfl h
  rename_i r n
  split at h <;> try exact absurd rfl h
  rename_i ns k e1 e2
  have er := intsOf_eq e1
  subst er
  split at h <;> try exact absurd rfl h
  rename_i hc
  rw [if_pos hc]
  obtain ⟨h0, hk⟩ := hc
  have hn : n < m.length := (List.getElem?_eq_some_iff.mp e2).1
  have hm2 : ∀ x, (m.set n x)[n]? = some x := fun x => List.getElem?_set_self hn
  have k3 : 0 ≤ k + 3 := by omega
  simp -implicitDefEqProofs [g__law_case, e2, F_law_printer, F_law_plan, h0, hk, hm2, k3, OutS, caseV]
  exact cut_set (c := .lst [.int _]) trivial
theorem ok_law_case {P : Program} {w : World} {K : PySem.W.Frag} {mg : Str → Option Value} {base : Heap} (d : DefOk K mg "_law_case" "_law_case" "_law_case" (top 29)) (h__law_printer : FnS P w K mg base 3 "_law_printer" 2 F_law_printer) (h__law_plan : FnS P w K mg base 4 "_law_plan" 3 F_law_plan) : FnS P w K mg base 5 "_law_case" 2 F_law_case :=
  okS d sc__law_case rfl (fun _ _ _ _ _ _ us hl => match us, hl with | [_, _], _ => rfl) (sb__law_case h__law_printer h__law_plan) eq_law_case
/-! ### _law_machine -/
abbrev nm__law_machine : List Str := ["case"]
abbrev ps__law_machine : List Str := ["case"]
theorem sc__law_machine : FnScope nm__law_machine ps__law_machine (defScope (top 30)) := ⟨rfl, rfl, rfl, by decide +kernel, rfl, by decide +kernel, by decide +kernel⟩
theorem nd__law_machine : nm__law_machine.Nodup := sc__law_machine.nd
noncomputable def g__law_machine : Env → Mu → RS :=
  zRet (xCallP 3 F_Printer_init (xCons (xBin oIx (xBin oIx (xVar 0) (xC (.int 0))) (xC (.int 0))) (xCons (xBin oIx (xBin oIx (xVar 0) (xC (.int 0))) (xC (.int 1))) (xCons (xBin oIx (xBin oIx (xVar 0) (xC (.int 0))) (xC (.int 2))) (xNil)))))
theorem sb__law_machine {P : Program} {w : World} {K : PySem.W.Frag} {mg : Str → Option Value} {base : Heap} (n_Printer : NewOk P w K mg base 1 "Printer" 3 ["counts", "remembers", "tells"] F_Printer_init) : ∀ (f : Addr) cd A outer s H E, Cok (cxD P w K mg base nm__law_machine "_law_machine" (defScope (top 30)) f cd A outer s H E) (fun c d _ H => E c d H) 2 → SB (cxD P w K mg base nm__law_machine "_law_machine" (defScope (top 30)) f cd A outer s H E) (fun c d _ H => E c d H) (defBody (top 30)) g__law_machine := fun f cd A outer s H E C =>
  (sb_one (ss_ret (se_new n_Printer (C.hr.mono (by first | decide | omega)) C.tk rfl (sa_cons (se_ix (se_ix (se_var 0 rfl (.inl rfl)) se_int (fun _ _ => rfl)) se_int (fun _ _ => rfl)) (sa_cons (se_ix (se_ix (se_var 0 rfl (.inl rfl)) se_int (fun _ _ => rfl)) se_int (fun _ _ => rfl)) (sa_cons (se_ix (se_ix (se_var 0 rfl (.inl rfl)) se_int (fun _ _ => rfl)) se_int (fun _ _ => rfl)) sa_nil))))))
-- kind: P
noncomputable def F_law_machine : List D → R0 := fun ds => match ds with
  | [x] => (match dec csD x with
    | some (p, ls) => .ok (prD p)
    | none => .stuck)
  | _ => .stuck
theorem eq_law_machine : ∀ ds, ds.length = 1 → F_law_machine ds ≠ .stuck → outP (g__law_machine (startD 1 (ds.map .d)) []) = F_law_machine ds := by
  intro ds hl h
  unfold F_law_machine at h ⊢
  split at h <;> try exact absurd rfl h
  split at h <;> try exact absurd rfl h
  rename_i p ls e
  have e2 := dec_some e
  subst e2
  simp -implicitDefEqProofs [g__law_machine, F_Printer_init]
theorem ok_law_machine {P : Program} {w : World} {K : PySem.W.Frag} {mg : Str → Option Value} {base : Heap} (d : DefOk K mg "_law_machine" "_law_machine" "_law_machine" (top 30)) (n_Printer : NewOk P w K mg base 1 "Printer" 3 ["counts", "remembers", "tells"] F_Printer_init) : FnP P w K mg base 3 "_law_machine" 1 F_law_machine :=
  okP d sc__law_machine rfl (fun _ _ _ _ _ _ us hl => match us, hl with | [_], _ => rfl) (sb__law_machine n_Printer) eq_law_machine
end DL
set_option maxHeartbeats 4000000
namespace DL
open PySem PySem.Spec PyProof.Rows L2
/-! ### _law_plan_fault -/
abbrev nm__law_plan_fault : List Str := ["lines", "error"]
abbrev ps__law_plan_fault : List Str := ["lines"]
theorem sc__law_plan_fault : FnScope nm__law_plan_fault ps__law_plan_fault (defScope (top 31)) := ⟨rfl, rfl, rfl, by decide +kernel, rfl, by decide +kernel, by decide +kernel⟩
theorem nd__law_plan_fault : nm__law_plan_fault.Nodup := sc__law_plan_fault.nd
noncomputable def g__law_plan_fault : Env → Mu → RS :=
  zSeq (zTry ERRS (zExpr (xCallP 1 F_Plan_init (xCons (xVar 0) (xNil)))) [⟨"BadValue", some 1, fun c a dd => zRet (xTup (xCons (xC (.str "value")) (xCons (xAt a dd c (xVar 1)) (xNil))))⟩, ⟨"BadLine", some 1, fun c a dd => zRet (xTup (xCons (xC (.str "line")) (xCons (xAt a dd c (xVar 1)) (xNil))))⟩])
  (zRet (xC .non))
theorem sb__law_plan_fault {P : Program} {w : World} {K : PySem.W.Frag} {mg : Str → Option Value} {base : Heap} (n_Plan : NewOk P w K mg base 8 "Plan" 1 ["lines"] F_Plan_init) (eE : ∀ c, ERRS.contains c = true → ErrK K mg c) (c_BadLine : mg "BadLine" = some (.ref (cA K "BadLine"))) (x_BadLine : ∀ c, ERRS.contains c = true → PySem.W.exmOne K (.ref (cA K c)) (.ref (cA K "BadLine")) = some (excSub c "BadLine")) (c_BadValue : mg "BadValue" = some (.ref (cA K "BadValue"))) (x_BadValue : ∀ c, ERRS.contains c = true → PySem.W.exmOne K (.ref (cA K c)) (.ref (cA K "BadValue")) = some (excSub c "BadValue")) : ∀ (f : Addr) cd A outer s H E, Cok (cxD P w K mg base nm__law_plan_fault "_law_plan_fault" (defScope (top 31)) f cd A outer s H E) (fun c d _ H => E c d H) 9 → SB (cxD P w K mg base nm__law_plan_fault "_law_plan_fault" (defScope (top 31)) f cd A outer s H E) (fun c d _ H => E c d H) (defBody (top 31)) g__law_plan_fault := fun f cd A outer s H E C =>
  (sb_cons (ss_try nd__law_plan_fault rfl rfl C.tk (fun W2 pn2 xe2 tk2 po2 => (sb_one (ss_expr (se_new n_Plan (C.hr.mono (by first | decide | omega)) tk2 rfl (sa_cons (se_var 0 rfl (.inl rfl)) sa_nil)))))
  (HsOk.cons (h := ⟨"BadValue", some 1, fun c a dd => zRet (xTup (xCons (xC (.str "value")) (xCons (xAt a dd c (xVar 1)) (xNil))))⟩) ⟨rfl, by decide, .inl c_BadValue⟩ (.inr ⟨_, _, rfl, rfl, rfl, rfl⟩) x_BadValue (fun c hc a dd oe pn hz hf => (sb_one (ss_ret (se_tup (sa_cons se_str (sa_cons (se_at (eE c hc) hz hf (se_var 1 rfl (.inl rfl))) sa_nil))))))
  (HsOk.cons (h := ⟨"BadLine", some 1, fun c a dd => zRet (xTup (xCons (xC (.str "line")) (xCons (xAt a dd c (xVar 1)) (xNil))))⟩) ⟨rfl, by decide, .inl c_BadLine⟩ (.inr ⟨_, _, rfl, rfl, rfl, rfl⟩) x_BadLine (fun c hc a dd oe pn hz hf => (sb_one (ss_ret (se_tup (sa_cons se_str (sa_cons (se_at (eE c hc) hz hf (se_var 1 rfl (.inl rfl))) sa_nil))))))
  HsOk.nil)))
  (sb_one (ss_ret se_non)))
-- kind: P
def pfV (r : R0) : R0 := match r with
  | .ok _ => .ok .non
  | .exc c d => if c = "BadValue" then .ok (.tup [.str "value", d]) else if c = "BadLine" then .ok (.tup [.str "line", d]) else .stuck
  | .stuck => .stuck
def F_law_plan_fault : List D → R0 := fun ds => match ds with
  | [x] => pfV (F_Plan_init [x])
  | _ => .stuck
theorem eq_law_plan_fault : ∀ ds, ds.length = 1 → F_law_plan_fault ds ≠ .stuck → outP (g__law_plan_fault (startD 2 (ds.map .d)) []) = F_law_plan_fault ds := by
  intro ds hl h
  unfold F_law_plan_fault at h ⊢
  split at h <;> try exact absurd rfl h
  rename_i x
  cases q : F_Plan_init [x] with
  | stuck => rw [q] at h; exact absurd rfl h
  | ok d => simp -implicitDefEqProofs [g__law_plan_fault, q, pfV]
  | exc c d =>
    rw [q] at h
    unfold pfV at h ⊢
    dsimp only at h ⊢
    by_cases c1 : c = "BadValue"
    · subst c1; simp -implicitDefEqProofs [g__law_plan_fault, q]
    · by_cases c2 : c = "BadLine"
      · subst c2; simp -implicitDefEqProofs [g__law_plan_fault, q]
      · rw [if_neg c1, if_neg c2] at h
        exact absurd rfl h
theorem ok_law_plan_fault {P : Program} {w : World} {K : PySem.W.Frag} {mg : Str → Option Value} {base : Heap} (d : DefOk K mg "_law_plan_fault" "_law_plan_fault" "_law_plan_fault" (top 31)) (n_Plan : NewOk P w K mg base 8 "Plan" 1 ["lines"] F_Plan_init) (eE : ∀ c, ERRS.contains c = true → ErrK K mg c) (c_BadLine : mg "BadLine" = some (.ref (cA K "BadLine"))) (x_BadLine : ∀ c, ERRS.contains c = true → PySem.W.exmOne K (.ref (cA K c)) (.ref (cA K "BadLine")) = some (excSub c "BadLine")) (c_BadValue : mg "BadValue" = some (.ref (cA K "BadValue"))) (x_BadValue : ∀ c, ERRS.contains c = true → PySem.W.exmOne K (.ref (cA K c)) (.ref (cA K "BadValue")) = some (excSub c "BadValue")) : FnP P w K mg base 10 "_law_plan_fault" 1 F_law_plan_fault :=
  okP d sc__law_plan_fault rfl (fun _ _ _ _ _ _ us hl => match us, hl with | [_], _ => rfl) (sb__law_plan_fault n_Plan eE c_BadLine x_BadLine c_BadValue x_BadValue) eq_law_plan_fault
/-! ### _law_printer_fault -/
abbrev nm__law_printer_fault : List Str := ["counts", "remembers", "tells", "error"]
abbrev ps__law_printer_fault : List Str := ["counts", "remembers", "tells"]
theorem sc__law_printer_fault : FnScope nm__law_printer_fault ps__law_printer_fault (defScope (top 32)) := ⟨rfl, rfl, rfl, by decide +kernel, rfl, by decide +kernel, by decide +kernel⟩
theorem nd__law_printer_fault : nm__law_printer_fault.Nodup := sc__law_printer_fault.nd
noncomputable def g__law_printer_fault : Env → Mu → RS :=
  zSeq (zTry ERRS (zExpr (xCallP 3 F_Printer_init (xCons (xVar 0) (xCons (xVar 1) (xCons (xVar 2) (xNil)))))) [⟨"BadValue", some 3, fun c a dd => zRet (xAt a dd c (xVar 3))⟩])
  (zRet (xC .non))
theorem sb__law_printer_fault {P : Program} {w : World} {K : PySem.W.Frag} {mg : Str → Option Value} {base : Heap} (n_Printer : NewOk P w K mg base 1 "Printer" 3 ["counts", "remembers", "tells"] F_Printer_init) (eE : ∀ c, ERRS.contains c = true → ErrK K mg c) (c_BadValue : mg "BadValue" = some (.ref (cA K "BadValue"))) (x_BadValue : ∀ c, ERRS.contains c = true → PySem.W.exmOne K (.ref (cA K c)) (.ref (cA K "BadValue")) = some (excSub c "BadValue")) : ∀ (f : Addr) cd A outer s H E, Cok (cxD P w K mg base nm__law_printer_fault "_law_printer_fault" (defScope (top 32)) f cd A outer s H E) (fun c d _ H => E c d H) 2 → SB (cxD P w K mg base nm__law_printer_fault "_law_printer_fault" (defScope (top 32)) f cd A outer s H E) (fun c d _ H => E c d H) (defBody (top 32)) g__law_printer_fault := fun f cd A outer s H E C =>
  (sb_cons (ss_try nd__law_printer_fault rfl rfl C.tk (fun W2 pn2 xe2 tk2 po2 => (sb_one (ss_expr (se_new n_Printer (C.hr.mono (by first | decide | omega)) tk2 rfl (sa_cons (se_var 0 rfl (.inl rfl)) (sa_cons (se_var 1 rfl (.inl rfl)) (sa_cons (se_var 2 rfl (.inl rfl)) sa_nil)))))))
  (HsOk.cons (h := ⟨"BadValue", some 3, fun c a dd => zRet (xAt a dd c (xVar 3))⟩) ⟨rfl, by decide, .inl c_BadValue⟩ (.inr ⟨_, _, rfl, rfl, rfl, rfl⟩) x_BadValue (fun c hc a dd oe pn hz hf => (sb_one (ss_ret (se_at (eE c hc) hz hf (se_var 3 rfl (.inl rfl))))))
  HsOk.nil))
  (sb_one (ss_ret se_non)))
-- kind: P
def pfP (r : R0) : R0 := match r with
  | .ok _ => .ok .non
  | .exc c d => if c = "BadValue" then .ok d else .stuck
  | .stuck => .stuck
def F_law_printer_fault : List D → R0 := fun ds => match ds with
  | [x, y, z] => pfP (F_Printer_init [x, y, z])
  | _ => .stuck
theorem eq_law_printer_fault : ∀ ds, ds.length = 3 → F_law_printer_fault ds ≠ .stuck → outP (g__law_printer_fault (startD 4 (ds.map .d)) []) = F_law_printer_fault ds := by
  intro ds hl h
  unfold F_law_printer_fault at h ⊢
  split at h <;> try exact absurd rfl h
  rename_i x y z
  cases q : F_Printer_init [x, y, z] with
  | stuck => rw [q] at h; exact absurd rfl h
  | ok d => simp -implicitDefEqProofs [g__law_printer_fault, q, pfP]
  | exc c d =>
    rw [q] at h
    unfold pfP at h ⊢
    dsimp only at h ⊢
    by_cases c1 : c = "BadValue"
    · subst c1; simp -implicitDefEqProofs [g__law_printer_fault, q]
    · rw [if_neg c1] at h
      exact absurd rfl h
theorem ok_law_printer_fault {P : Program} {w : World} {K : PySem.W.Frag} {mg : Str → Option Value} {base : Heap} (d : DefOk K mg "_law_printer_fault" "_law_printer_fault" "_law_printer_fault" (top 32)) (n_Printer : NewOk P w K mg base 1 "Printer" 3 ["counts", "remembers", "tells"] F_Printer_init) (eE : ∀ c, ERRS.contains c = true → ErrK K mg c) (c_BadValue : mg "BadValue" = some (.ref (cA K "BadValue"))) (x_BadValue : ∀ c, ERRS.contains c = true → PySem.W.exmOne K (.ref (cA K c)) (.ref (cA K "BadValue")) = some (excSub c "BadValue")) : FnP P w K mg base 3 "_law_printer_fault" 3 F_law_printer_fault :=
  okP d sc__law_printer_fault rfl (fun _ _ _ _ _ _ us hl => match us, hl with | [_, _, _], _ => rfl) (sb__law_printer_fault n_Printer eE c_BadValue x_BadValue) eq_law_printer_fault
end DL
set_option maxHeartbeats 4000000
namespace DL
open PySem PySem.Spec PyProof.Rows L2
/-! ### law -/
abbrev nm_law : List Str := ["script", "row", "spot", "case", "given", "made", "at", "other", "machine", "k", "bent", "wrong", "bad", "lines", "last", "one"]
abbrev ps_law : List Str := ["script"]
theorem sc_law : FnScope nm_law ps_law (defScope (top 33)) := ⟨rfl, rfl, rfl, by decide +kernel, rfl, by decide +kernel, by decide +kernel⟩
theorem nd_law : nm_law.Nodup := sc_law.nd
noncomputable def lp1_law : Env → Mu → RS :=
  zSeq (zAsg (xCallP 3 F_law_set (xCons (xBin oIx (xVar 3) (xC (.int 0))) (xCons (xVar 9) (xCons (xNot (xBin oIx (xBin oIx (xVar 3) (xC (.int 0))) (xVar 9))) (xNil))))) (gN 10))
  (zSeq (zIf (xOrT (xTst (xBin (oEqO "Printer" OWN F_Printer_eq) (xVar 8) (xCallP 3 F_Printer_init (xCons (xBin oIx (xVar 10) (xC (.int 0))) (xCons (xBin oIx (xVar 10) (xC (.int 1))) (xCons (xBin oIx (xVar 10) (xC (.int 2))) (xNil))))))) (xTst (xBin (oEqO "Printer" OWN F_Printer_eq) (xVar 8) (xBin oIx (xVar 3) (xC (.int 0)))))) (zRet (xC (.bl false))) (zNil))
  (zSeq (zAsg (xCallP 3 F_law_set (xCons (xBin oIx (xVar 3) (xC (.int 0))) (xCons (xVar 9) (xCons (xBin oIx (xFrz (xLst (xCons (xC (.int 0)) (xCons (xC (.int 1)) (xCons (xC .non) (xCons (xC (.str "True")) (xNil))))))) (xCallS 3 F_law_take (xCons (xVar 1) (xCons (xVar 2) (xCons (xC (.int 4)) (xNil)))))) (xNil))))) (gN 11))
  (zIf (xTst (xBin oNe (xCallP 3 F_law_printer_fault (xCons (xBin oIx (xVar 11) (xC (.int 0))) (xCons (xBin oIx (xVar 11) (xC (.int 1))) (xCons (xBin oIx (xVar 11) (xC (.int 2))) (xNil))))) (xBin oAdd (xVar 9) (xC (.int 1))))) (zRet (xC (.bl false))) (zNil))))
noncomputable def tl1_law : Env → Mu → RS :=
  zSeq (zAsg (xBin oIx (xFrz (xLst (xCons (xTup (xCons (xC (.str "add")) (xNil))) (xCons (xTup (xCons (xC (.str "send")) (xNil))) (xCons (xTup (xCons (xC (.str "if")) (xCons (xC (.str "ok")) (xCons (xC (.int 0)) (xNil))))) (xCons (xTup (xCons (xC (.str "wait")) (xNil))) (xCons (xTup (xCons (xC (.str "note")) (xNil))) (xNil)))))))) (xCallS 3 F_law_take (xCons (xVar 1) (xCons (xVar 2) (xCons (xC (.int 5)) (xNil)))))) (gN 14))
  (zRet (xBin oEq (xCallP 1 F_law_plan_fault (xCons (xCallP 3 F_law_set (xCons (xBin oIx (xVar 3) (xC (.int 1))) (xCons (xBin oSub (xCB oLen (xCons (xBin oIx (xVar 3) (xC (.int 1))) (xNil))) (xC (.int 1))) (xCons (xVar 14) (xNil))))) (xNil))) (xTup (xCons (xC (.str "line")) (xCons (xBin oSub (xCB oLen (xCons (xBin oIx (xVar 3) (xC (.int 1))) (xNil))) (xC (.int 1))) (xNil))))))
@[simp] theorem s_tl1_law {e : Env} {m : Mu} : tl1_law e m = ((zAsg (xBin oIx (xFrz (xLst (xCons (xTup (xCons (xC (.str "add")) (xNil))) (xCons (xTup (xCons (xC (.str "send")) (xNil))) (xCons (xTup (xCons (xC (.str "if")) (xCons (xC (.str "ok")) (xCons (xC (.int 0)) (xNil))))) (xCons (xTup (xCons (xC (.str "wait")) (xNil))) (xCons (xTup (xCons (xC (.str "note")) (xNil))) (xNil)))))))) (xCallS 3 F_law_take (xCons (xVar 1) (xCons (xVar 2) (xCons (xC (.int 5)) (xNil)))))) (gN 14)) e m).thn (zRet (xBin oEq (xCallP 1 F_law_plan_fault (xCons (xCallP 3 F_law_set (xCons (xBin oIx (xVar 3) (xC (.int 1))) (xCons (xBin oSub (xCB oLen (xCons (xBin oIx (xVar 3) (xC (.int 1))) (xNil))) (xC (.int 1))) (xCons (xVar 14) (xNil))))) (xNil))) (xTup (xCons (xC (.str "line")) (xCons (xBin oSub (xCB oLen (xCons (xBin oIx (xVar 3) (xC (.int 1))) (xNil))) (xC (.int 1))) (xNil)))))) := rfl
noncomputable def tl2_law : Env → Mu → RS :=
  zSeq (zIf (xTst (xBin oNe (xCallP 1 F_law_plan_fault (xCons (xVar 13) (xNil))) (xTup (xCons (xC (.str "line")) (xCons (xVar 6) (xNil)))))) (zRet (xC (.bl false))) (zNil))
  (tl1_law)
@[simp] theorem s_tl2_law {e : Env} {m : Mu} : tl2_law e m = ((zIf (xTst (xBin oNe (xCallP 1 F_law_plan_fault (xCons (xVar 13) (xNil))) (xTup (xCons (xC (.str "line")) (xCons (xVar 6) (xNil)))))) (zRet (xC (.bl false))) (zNil)) e m).thn (tl1_law) := rfl
noncomputable def tl3_law : Env → Mu → RS :=
  zSeq (zIf (xAndT (xTst (xBin oLt (xVar 6) (xBin oSub (xCB oLen (xCons (xVar 13) (xNil))) (xC (.int 1))))) (xTst (xBin oEq (xCallS 3 F_law_take (xCons (xVar 1) (xCons (xVar 2) (xCons (xC (.int 2)) (xNil))))) (xC (.int 0))))) (zAsg (xCallP 3 F_law_set (xCons (xVar 13) (xCons (xBin oAdd (xVar 6) (xC (.int 1))) (xCons (xC .non) (xNil))))) (gN 13)) (zNil))
  (tl2_law)
@[simp] theorem s_tl3_law {e : Env} {m : Mu} : tl3_law e m = ((zIf (xAndT (xTst (xBin oLt (xVar 6) (xBin oSub (xCB oLen (xCons (xVar 13) (xNil))) (xC (.int 1))))) (xTst (xBin oEq (xCallS 3 F_law_take (xCons (xVar 1) (xCons (xVar 2) (xCons (xC (.int 2)) (xNil))))) (xC (.int 0))))) (zAsg (xCallP 3 F_law_set (xCons (xVar 13) (xCons (xBin oAdd (xVar 6) (xC (.int 1))) (xCons (xC .non) (xNil))))) (gN 13)) (zNil)) e m).thn (tl2_law) := rfl
noncomputable def tl4_law : Env → Mu → RS :=
  zSeq (zAsg (xCallP 3 F_law_set (xCons (xBin oIx (xVar 3) (xC (.int 1))) (xCons (xVar 6) (xCons (xBin oIx (xVar 12) (xCallS 3 F_law_take (xCons (xVar 1) (xCons (xVar 2) (xCons (xC (.int 16)) (xNil)))))) (xNil))))) (gN 13))
  (tl3_law)
@[simp] theorem s_tl4_law {e : Env} {m : Mu} : tl4_law e m = ((zAsg (xCallP 3 F_law_set (xCons (xBin oIx (xVar 3) (xC (.int 1))) (xCons (xVar 6) (xCons (xBin oIx (xVar 12) (xCallS 3 F_law_take (xCons (xVar 1) (xCons (xVar 2) (xCons (xC (.int 16)) (xNil)))))) (xNil))))) (gN 13)) e m).thn (tl3_law) := rfl
noncomputable def tl5_law : Env → Mu → RS :=
  zSeq (zAsg (xFrz (xCat (xVar 12) (xFrz (xLst (xCons (xTup (xCons (xC (.str "if")) (xCons (xC (.str "ok")) (xCons (xC (.int 0)) (xCons (xC (.int 0)) (xNil)))))) (xCons (xC (.str "end")) (xCons (xTup (xCons (xC (.str "end")) (xCons (xC (.str "end")) (xNil)))) (xCons (xTup (xCons (xC (.str "recall")) (xCons (xC (.int 0)) (xNil)))) (xNil))))))))) (gN 12))
  (tl4_law)
@[simp] theorem s_tl5_law {e : Env} {m : Mu} : tl5_law e m = ((zAsg (xFrz (xCat (xVar 12) (xFrz (xLst (xCons (xTup (xCons (xC (.str "if")) (xCons (xC (.str "ok")) (xCons (xC (.int 0)) (xCons (xC (.int 0)) (xNil)))))) (xCons (xC (.str "end")) (xCons (xTup (xCons (xC (.str "end")) (xCons (xC (.str "end")) (xNil)))) (xCons (xTup (xCons (xC (.str "recall")) (xCons (xC (.int 0)) (xNil)))) (xNil))))))))) (gN 12)) e m).thn (tl4_law) := rfl
noncomputable def tl6_law : Env → Mu → RS :=
  zSeq (zAsg (xFrz (xLst (xCons (xC .non) (xCons (xC (.int 5)) (xCons (xTup (xNil)) (xCons (xTup (xCons (xC (.str "fly")) (xNil))) (xCons (xTup (xCons (xC (.str "send")) (xCons (xC (.int 1)) (xNil)))) (xCons (xTup (xCons (xC (.str "go")) (xNil))) (xCons (xTup (xCons (xC (.str "go")) (xCons (xCB oLen (xCons (xBin oIx (xVar 3) (xC (.int 1))) (xNil))) (xNil)))) (xCons (xTup (xCons (xC (.str "go")) (xCons (xNeg (xC (.int 1))) (xNil)))) (xCons (xTup (xCons (xC (.str "go")) (xCons (xC (.bl true)) (xNil)))) (xCons (xTup (xCons (xC (.str "if")) (xCons (xC (.str "done")) (xNil)))) (xCons (xTup (xCons (xC (.str "if")) (xCons (xC (.str "no")) (xCons (xC (.int 0)) (xNil))))) (xCons (xTup (xCons (xC (.str "if")) (xCons (xC (.str "ok")) (xCons (xCB oLen (xCons (xBin oIx (xVar 3) (xC (.int 1))) (xNil))) (xNil))))) (xNil))))))))))))))) (gN 12))
  (tl5_law)
@[simp] theorem s_tl6_law {e : Env} {m : Mu} : tl6_law e m = ((zAsg (xFrz (xLst (xCons (xC .non) (xCons (xC (.int 5)) (xCons (xTup (xNil)) (xCons (xTup (xCons (xC (.str "fly")) (xNil))) (xCons (xTup (xCons (xC (.str "send")) (xCons (xC (.int 1)) (xNil)))) (xCons (xTup (xCons (xC (.str "go")) (xNil))) (xCons (xTup (xCons (xC (.str "go")) (xCons (xCB oLen (xCons (xBin oIx (xVar 3) (xC (.int 1))) (xNil))) (xNil)))) (xCons (xTup (xCons (xC (.str "go")) (xCons (xNeg (xC (.int 1))) (xNil)))) (xCons (xTup (xCons (xC (.str "go")) (xCons (xC (.bl true)) (xNil)))) (xCons (xTup (xCons (xC (.str "if")) (xCons (xC (.str "done")) (xNil)))) (xCons (xTup (xCons (xC (.str "if")) (xCons (xC (.str "no")) (xCons (xC (.int 0)) (xNil))))) (xCons (xTup (xCons (xC (.str "if")) (xCons (xC (.str "ok")) (xCons (xCB oLen (xCons (xBin oIx (xVar 3) (xC (.int 1))) (xNil))) (xNil))))) (xNil))))))))))))))) (gN 12)) e m).thn (tl5_law) := rfl
noncomputable def tl7_law : Env → Mu → RS :=
  zSeq (zIf (xTst (xBin oNe (xCallP 1 F_law_plan_fault (xCons (xBin oIx (xFrz (xLst (xCons (xC .non) (xCons (xTup (xNil)) (xCons (xC (.int 5)) (xCons (xC (.str "end")) (xCons (xCB oTuple (xCons (xFrz (xLc (iRng iRg1 (xCons (xC (.int 17)) (xNil))) [9] (tN 9) (pYes) (xTup (xCons (xC (.str "end")) (xNil))))) (xNil))) (xNil)))))))) (xCallS 3 F_law_take (xCons (xVar 1) (xCons (xVar 2) (xCons (xC (.int 5)) (xNil)))))) (xNil))) (xTup (xCons (xC (.str "value")) (xCons (xC (.int 1)) (xNil)))))) (zRet (xC (.bl false))) (zNil))
  (tl6_law)
@[simp] theorem s_tl7_law {e : Env} {m : Mu} : tl7_law e m = ((zIf (xTst (xBin oNe (xCallP 1 F_law_plan_fault (xCons (xBin oIx (xFrz (xLst (xCons (xC .non) (xCons (xTup (xNil)) (xCons (xC (.int 5)) (xCons (xC (.str "end")) (xCons (xCB oTuple (xCons (xFrz (xLc (iRng iRg1 (xCons (xC (.int 17)) (xNil))) [9] (tN 9) (pYes) (xTup (xCons (xC (.str "end")) (xNil))))) (xNil))) (xNil)))))))) (xCallS 3 F_law_take (xCons (xVar 1) (xCons (xVar 2) (xCons (xC (.int 5)) (xNil)))))) (xNil))) (xTup (xCons (xC (.str "value")) (xCons (xC (.int 1)) (xNil)))))) (zRet (xC (.bl false))) (zNil)) e m).thn (tl6_law) := rfl
noncomputable def tl8_law : Env → Mu → RS :=
  zSeq (zFor (iRng iRg1 (xCons (xC (.int 3)) (xNil))) (gN 9) lp1_law)
  (tl7_law)
@[simp] theorem s_tl8_law {e : Env} {m : Mu} : tl8_law e m = ((zFor (iRng iRg1 (xCons (xC (.int 3)) (xNil))) (gN 9) lp1_law) e m).thn (tl7_law) := rfl
noncomputable def tl9_law : Env → Mu → RS :=
  zSeq (zIf (xOrT (xNotT (xTst (xCallP 2 (F_law_so 6) (xCons (xTup (xCons (xFld "Printer" "_counts" (xVar 8)) (xCons (xFld "Printer" "_remembers" (xVar 8)) (xCons (xFld "Printer" "_tells" (xVar 8)) (xNil))))) (xCons (xBin oIx (xVar 3) (xC (.int 0))) (xNil)))))) (xNotT (xTst (xBin (oEqO "Printer" OWN F_Printer_eq) (xVar 8) (xCallP 3 F_Printer_init (xCons (xBin oIx (xBin oIx (xVar 3) (xC (.int 0))) (xC (.int 0))) (xCons (xBin oIx (xBin oIx (xVar 3) (xC (.int 0))) (xC (.int 1))) (xCons (xBin oIx (xBin oIx (xVar 3) (xC (.int 0))) (xC (.int 2))) (xNil))))))))) (zRet (xC (.bl false))) (zNil))
  (tl8_law)
@[simp] theorem s_tl9_law {e : Env} {m : Mu} : tl9_law e m = ((zIf (xOrT (xNotT (xTst (xCallP 2 (F_law_so 6) (xCons (xTup (xCons (xFld "Printer" "_counts" (xVar 8)) (xCons (xFld "Printer" "_remembers" (xVar 8)) (xCons (xFld "Printer" "_tells" (xVar 8)) (xNil))))) (xCons (xBin oIx (xVar 3) (xC (.int 0))) (xNil)))))) (xNotT (xTst (xBin (oEqO "Printer" OWN F_Printer_eq) (xVar 8) (xCallP 3 F_Printer_init (xCons (xBin oIx (xBin oIx (xVar 3) (xC (.int 0))) (xC (.int 0))) (xCons (xBin oIx (xBin oIx (xVar 3) (xC (.int 0))) (xC (.int 1))) (xCons (xBin oIx (xBin oIx (xVar 3) (xC (.int 0))) (xC (.int 2))) (xNil))))))))) (zRet (xC (.bl false))) (zNil)) e m).thn (tl8_law) := rfl
noncomputable def tl10_law : Env → Mu → RS :=
  zSeq (zAsg (xCallP 1 F_law_machine (xCons (xVar 3) (xNil))) (gN 8))
  (tl9_law)
@[simp] theorem s_tl10_law {e : Env} {m : Mu} : tl10_law e m = ((zAsg (xCallP 1 F_law_machine (xCons (xVar 3) (xNil))) (gN 8)) e m).thn (tl9_law) := rfl
noncomputable def tl11_law : Env → Mu → RS :=
  zSeq (zIf (xTst (xBin (oEqO "Plan" OWN F_Plan_eq) (xVar 5) (xCallP 1 F_Plan_init (xCons (xCallP 3 F_law_set (xCons (xBin oIx (xVar 3) (xC (.int 1))) (xCons (xVar 6) (xCons (xVar 7) (xNil))))) (xNil))))) (zRet (xC (.bl false))) (zNil))
  (tl10_law)
@[simp] theorem s_tl11_law {e : Env} {m : Mu} : tl11_law e m = ((zIf (xTst (xBin (oEqO "Plan" OWN F_Plan_eq) (xVar 5) (xCallP 1 F_Plan_init (xCons (xCallP 3 F_law_set (xCons (xBin oIx (xVar 3) (xC (.int 1))) (xCons (xVar 6) (xCons (xVar 7) (xNil))))) (xNil))))) (zRet (xC (.bl false))) (zNil)) e m).thn (tl10_law) := rfl
noncomputable def tl12_law : Env → Mu → RS :=
  zSeq (zAsg (xIf (xTst (xBin oNe (xBin oIx (xBin oIx (xVar 3) (xC (.int 1))) (xVar 6)) (xTup (xCons (xC (.str "end")) (xNil))))) (xTup (xCons (xC (.str "end")) (xNil))) (xTup (xCons (xC (.str "go")) (xCons (xC (.int 0)) (xNil))))) (gN 7))
  (tl11_law)
@[simp] theorem s_tl12_law {e : Env} {m : Mu} : tl12_law e m = ((zAsg (xIf (xTst (xBin oNe (xBin oIx (xBin oIx (xVar 3) (xC (.int 1))) (xVar 6)) (xTup (xCons (xC (.str "end")) (xNil))))) (xTup (xCons (xC (.str "end")) (xNil))) (xTup (xCons (xC (.str "go")) (xCons (xC (.int 0)) (xNil))))) (gN 7)) e m).thn (tl11_law) := rfl
noncomputable def tl13_law : Env → Mu → RS :=
  zSeq (zAsg (xCallS 3 F_law_take (xCons (xVar 1) (xCons (xVar 2) (xCons (xCB oLen (xCons (xBin oIx (xVar 3) (xC (.int 1))) (xNil))) (xNil))))) (gN 6))
  (tl12_law)
@[simp] theorem s_tl13_law {e : Env} {m : Mu} : tl13_law e m = ((zAsg (xCallS 3 F_law_take (xCons (xVar 1) (xCons (xVar 2) (xCons (xCB oLen (xCons (xBin oIx (xVar 3) (xC (.int 1))) (xNil))) (xNil))))) (gN 6)) e m).thn (tl12_law) := rfl
noncomputable def g_law : Env → Mu → RS :=
  zSeq (zAsg (xCallP 1 F_law_numbers (xCons (xVar 0) (xNil))) (gN 1))
  (zSeq (zAsg (xCel (xLst (xCons (xC (.int 0)) (xNil)))) (gN 2))
  (zSeq (zAsg (xCallS 2 F_law_case (xCons (xVar 1) (xCons (xVar 2) (xNil)))) (gN 3))
  (zThaw 4 5 (xLcF (iSeq (xBin oIx (xVar 3) (xC (.int 1)))) [15] (tN 15) (xCF oList (xCons (xVar 15) (xNil)))) (xCallP 1 F_Plan_init (xCons (xMv (xVar 4)) (xNil)))
  (zSeq (zIf (xOrT (xNotT (xTst (xCallP 2 (F_law_so 6) (xCons (xFld "Plan" "_lines" (xVar 5)) (xCons (xBin oIx (xVar 3) (xC (.int 1))) (xNil)))))) (xOrT (xTst (xBin oNe (xCB (oLenO "Plan" F_Plan_len) (xCons (xVar 5) (xNil))) (xCB oLen (xCons (xBin oIx (xVar 3) (xC (.int 1))) (xNil))))) (xOrT (xNotT (xTst (xBin (oEqO "Plan" OWN F_Plan_eq) (xVar 5) (xCallP 1 F_Plan_init (xCons (xCallP 2 (F_law_loose 6) (xCons (xBin oIx (xVar 3) (xC (.int 1))) (xCons (xC (.int 1)) (xNil)))) (xNil)))))) (xOrT (xTst (xBin (oEqO "Plan" OWN F_Plan_eq) (xVar 5) (xBin oIx (xVar 3) (xC (.int 1))))) (xTst (xBin (oEqO "Plan" OWN F_Plan_eq) (xVar 5) (xC .non))))))) (zRet (xC (.bl false))) (zNil))
  (tl13_law)))))
theorem sb_law {P : Program} {w : World} {K : PySem.W.Frag} {mg : Str → Option Value} {base : Heap} (m_list : mg "list" = none) (n_Plan : NewOk P w K mg base 8 "Plan" 1 ["lines"] F_Plan_init) (h__law_so : FnP P w K mg base 7 "_law_so" 2 (F_law_so 6)) (pp_lines : PropK P w K mg base 1 "Plan" "lines" "_lines") (mt_Plan_len : MtP P w K mg base 1 "Plan" "__len__" 1 F_Plan_len) (m_len : mg "len" = none) (h__law_loose : FnP P w K mg base 7 "_law_loose" 2 (F_law_loose 6)) (mt_Plan_eq : MtP P w K mg base 3 "Plan" "__eq__" 2 F_Plan_eq) (nf_Plan : nfB K "Plan" OWN = true) (kI : IsiK K OWN) (h__law_take : FnS P w K mg base 2 "_law_take" 3 F_law_take) (h__law_set : FnP P w K mg base 1 "_law_set" 3 F_law_set) (h__law_machine : FnP P w K mg base 3 "_law_machine" 1 F_law_machine) (pp_tells : PropK P w K mg base 1 "Printer" "tells" "_tells") (pp_remembers : PropK P w K mg base 1 "Printer" "remembers" "_remembers") (pp_counts : PropK P w K mg base 1 "Printer" "counts" "_counts") (n_Printer : NewOk P w K mg base 1 "Printer" 3 ["counts", "remembers", "tells"] F_Printer_init) (mt_Printer_eq : MtP P w K mg base 3 "Printer" "__eq__" 2 F_Printer_eq) (nf_Printer : nfB K "Printer" OWN = true) (m_range : mg "range" = none) (h__law_printer_fault : FnP P w K mg base 3 "_law_printer_fault" 3 F_law_printer_fault) (h__law_plan_fault : FnP P w K mg base 10 "_law_plan_fault" 1 F_law_plan_fault) (m_tuple : mg "tuple" = none) (h__law_case : FnS P w K mg base 5 "_law_case" 2 F_law_case) (h__law_numbers : FnP P w K mg base 1 "_law_numbers" 1 F_law_numbers) : ∀ (f : Addr) cd A outer s H E, Cok (cxD P w K mg base nm_law "law" (defScope (top 33)) f cd A outer s H E) (fun c d _ H => E c d H) 10 → SB (cxD P w K mg base nm_law "law" (defScope (top 33)) f cd A outer s H E) (fun c d _ H => E c d H) (defBody (top 33)) g_law := fun f cd A outer s H E C =>
  (sb_cons (ss_set (i := 1) nd_law rfl (.inl rfl) (se_callP h__law_numbers (C.hr.mono (by first | decide | omega)) C.tk rfl (sa_cons (se_var 0 rfl (.inl rfl)) sa_nil)))
  (sb_cons (ss_set (i := 2) nd_law rfl (.inl rfl) (sf_cel (sf_lst (sa_cons se_int sa_nil))))
  (sb_cons (ss_set (i := 3) nd_law rfl (.inl rfl) (se_callS h__law_case (C.hr.mono (by first | decide | omega)) C.tk rfl (sa_cons (se_var 1 rfl (.inl rfl)) (sa_cons (se_var 2 rfl (.inl rfl)) sa_nil))))
  (sb_thawL (i := 4) (j := 5) (l := 15) (own := [(("one" : Str), 15)]) C.calm nd_law rfl rfl (.inl rfl) rfl rfl (sw_true rfl rfl rfl (by decide +kernel)) (si_seq (se_ix (se_var 3 rfl (.inl rfl)) se_int (fun _ _ => rfl))) (blkOk_by (own := [(("one" : Str), 15)]) (N := nm_law) (sc := defScope (top 33)) (by decide +kernel)) rfl (fun _ _ _ _ _ => pg_name (i := 15) nd_law rfl (.inl rfl)) (fun _ _ _ _ _ => (sf_ct cf_list rfl m_list (by decide +kernel) (sa_cons (se_var 15 rfl (.inl rfl)) sa_nil)))
  (se_new n_Plan (C.hr.mono (by first | decide | omega)) C.tk rfl (sa_cons (se_mv (se_var 4 rfl (.inl rfl))) sa_nil))
  (sb_cons (ss_if (sw_st (sw_or (st_not (st_val (se_callP h__law_so (C.hr.mono (by first | decide | omega)) C.tk rfl (sa_cons (se_prop pp_lines (C.hr.mono (by first | decide | omega)) (se_var 5 rfl (.inl rfl))) (sa_cons (se_ix (se_var 3 rfl (.inl rfl)) se_int (fun _ _ => rfl)) sa_nil))))) (sw_or (st_cmp (os_ne C.hr.units) (se_cb (cs_lenO mt_Plan_len (C.hr.mono (by first | decide | omega))) rfl m_len (by decide +kernel) (sa_cons (se_var 5 rfl (.inl rfl)) sa_nil)) (se_cb cs_len rfl m_len (by decide +kernel) (sa_cons (se_ix (se_var 3 rfl (.inl rfl)) se_int (fun _ _ => rfl)) sa_nil)) (nomark _)) (sw_or (st_not (st_cmp (os_eqO kI nf_Plan mt_Plan_eq (C.hr.mono (by first | decide | omega))) (se_var 5 rfl (.inl rfl)) (se_newK n_Plan (C.hr.mono (by first | decide | omega)) C.tk rfl (skw_cons (se_callP h__law_loose (C.hr.mono (by first | decide | omega)) C.tk rfl (sa_cons (se_ix (se_var 3 rfl (.inl rfl)) se_int (fun _ _ => rfl)) (sa_cons se_int sa_nil))) skw_nil)) (nomark _))) (sw_or (st_cmp (os_eqO kI nf_Plan mt_Plan_eq (C.hr.mono (by first | decide | omega))) (se_var 5 rfl (.inl rfl)) (se_ix (se_var 3 rfl (.inl rfl)) se_int (fun _ _ => rfl)) (nomark _)) (sw_or1 (st_cmp (os_eqO kI nf_Plan mt_Plan_eq (C.hr.mono (by first | decide | omega))) (se_var 5 rfl (.inl rfl)) se_non (nomark _)))))))) (sb_one (ss_ret se_bl)) sb_nil)
  (sb_cons (ss_set (i := 6) nd_law rfl (.inl rfl) (se_callS h__law_take (C.hr.mono (by first | decide | omega)) C.tk rfl (sa_cons (se_var 1 rfl (.inl rfl)) (sa_cons (se_var 2 rfl (.inl rfl)) (sa_cons (se_cb cs_len rfl m_len (by decide +kernel) (sa_cons (se_ix (se_var 3 rfl (.inl rfl)) se_int (fun _ _ => rfl)) sa_nil)) sa_nil)))))
  (sb_cons (ss_set (i := 7) nd_law rfl (.inl rfl) (se_if (st_cmp (os_ne C.hr.units) (se_ix (se_ix (se_var 3 rfl (.inl rfl)) se_int (fun _ _ => rfl)) (se_var 6 rfl (.inl rfl)) (fun _ _ => rfl)) (se_tup (sa_cons se_str sa_nil)) (nomark _)) (se_tup (sa_cons se_str sa_nil)) (se_tup (sa_cons se_str (sa_cons se_int sa_nil)))))
  (sb_cons (ss_if (st_cmp (os_eqO kI nf_Plan mt_Plan_eq (C.hr.mono (by first | decide | omega))) (se_var 5 rfl (.inl rfl)) (se_new n_Plan (C.hr.mono (by first | decide | omega)) C.tk rfl (sa_cons (se_callP h__law_set (C.hr.mono (by first | decide | omega)) C.tk rfl (sa_cons (se_ix (se_var 3 rfl (.inl rfl)) se_int (fun _ _ => rfl)) (sa_cons (se_var 6 rfl (.inl rfl)) (sa_cons (se_var 7 rfl (.inl rfl)) sa_nil)))) sa_nil)) (nomark _)) (sb_one (ss_ret se_bl)) sb_nil)
  (sb_cons (ss_set (i := 8) nd_law rfl (.inl rfl) (se_callP h__law_machine (C.hr.mono (by first | decide | omega)) C.tk rfl (sa_cons (se_var 3 rfl (.inl rfl)) sa_nil)))
  (sb_cons (ss_if (sw_st (sw_or (st_not (st_val (se_callP h__law_so (C.hr.mono (by first | decide | omega)) C.tk rfl (sa_cons (se_tup (sa_cons (se_prop pp_counts (C.hr.mono (by first | decide | omega)) (se_var 8 rfl (.inl rfl))) (sa_cons (se_prop pp_remembers (C.hr.mono (by first | decide | omega)) (se_var 8 rfl (.inl rfl))) (sa_cons (se_prop pp_tells (C.hr.mono (by first | decide | omega)) (se_var 8 rfl (.inl rfl))) sa_nil)))) (sa_cons (se_ix (se_var 3 rfl (.inl rfl)) se_int (fun _ _ => rfl)) sa_nil))))) (sw_or1 (st_not (st_cmp (os_eqO kI nf_Printer mt_Printer_eq (C.hr.mono (by first | decide | omega))) (se_var 8 rfl (.inl rfl)) (se_newK n_Printer (C.hr.mono (by first | decide | omega)) C.tk rfl (skw_cons (se_ix (se_ix (se_var 3 rfl (.inl rfl)) se_int (fun _ _ => rfl)) se_int (fun _ _ => rfl)) (skw_cons (se_ix (se_ix (se_var 3 rfl (.inl rfl)) se_int (fun _ _ => rfl)) se_int (fun _ _ => rfl)) (skw_cons (se_ix (se_ix (se_var 3 rfl (.inl rfl)) se_int (fun _ _ => rfl)) se_int (fun _ _ => rfl)) skw_nil)))) (nomark _)))))) (sb_one (ss_ret se_bl)) sb_nil)
  (sb_cons (ss_for C.po C.calm (si_range1 rfl m_range (sa_cons se_int sa_nil)) (sg_name (i := 9) nd_law rfl (.inl rfl)) (sb_cons (ss_set (i := 10) nd_law rfl (.inl rfl) (se_callP h__law_set (C.hr.mono (by first | decide | omega)) C.tk rfl (sa_cons (se_ix (se_var 3 rfl (.inl rfl)) se_int (fun _ _ => rfl)) (sa_cons (se_var 9 rfl (.inl rfl)) (sa_cons (se_not (se_ix (se_ix (se_var 3 rfl (.inl rfl)) se_int (fun _ _ => rfl)) (se_var 9 rfl (.inl rfl)) (fun _ _ => rfl))) sa_nil)))))
  (sb_cons (ss_if (sw_st (sw_or (st_cmp (os_eqO kI nf_Printer mt_Printer_eq (C.hr.mono (by first | decide | omega))) (se_var 8 rfl (.inl rfl)) (se_new n_Printer (C.hr.mono (by first | decide | omega)) C.tk rfl (sa_cons (se_ix (se_var 10 rfl (.inl rfl)) se_int (fun _ _ => rfl)) (sa_cons (se_ix (se_var 10 rfl (.inl rfl)) se_int (fun _ _ => rfl)) (sa_cons (se_ix (se_var 10 rfl (.inl rfl)) se_int (fun _ _ => rfl)) sa_nil)))) (nomark _)) (sw_or1 (st_cmp (os_eqO kI nf_Printer mt_Printer_eq (C.hr.mono (by first | decide | omega))) (se_var 8 rfl (.inl rfl)) (se_ix (se_var 3 rfl (.inl rfl)) se_int (fun _ _ => rfl)) (nomark _))))) (sb_one (ss_ret se_bl)) sb_nil)
  (sb_cons (ss_set (i := 11) nd_law rfl (.inl rfl) (se_callP h__law_set (C.hr.mono (by first | decide | omega)) C.tk rfl (sa_cons (se_ix (se_var 3 rfl (.inl rfl)) se_int (fun _ _ => rfl)) (sa_cons (se_var 9 rfl (.inl rfl)) (sa_cons (se_ix (sf_frz (sf_lst (sa_cons se_int (sa_cons se_int (sa_cons se_non (sa_cons se_str sa_nil)))))) (se_callS h__law_take (C.hr.mono (by first | decide | omega)) C.tk rfl (sa_cons (se_var 1 rfl (.inl rfl)) (sa_cons (se_var 2 rfl (.inl rfl)) (sa_cons se_int sa_nil)))) (fun _ _ => rfl)) sa_nil)))))
  (sb_one (ss_if (st_cmp (os_ne C.hr.units) (se_callP h__law_printer_fault (C.hr.mono (by first | decide | omega)) C.tk rfl (sa_cons (se_ix (se_var 11 rfl (.inl rfl)) se_int (fun _ _ => rfl)) (sa_cons (se_ix (se_var 11 rfl (.inl rfl)) se_int (fun _ _ => rfl)) (sa_cons (se_ix (se_var 11 rfl (.inl rfl)) se_int (fun _ _ => rfl)) sa_nil)))) (se_op os_add (se_var 9 rfl (.inl rfl)) se_int) (nomark _)) (sb_one (ss_ret se_bl)) sb_nil))))))
  (sb_cons (ss_if (st_cmp (os_ne C.hr.units) (se_callP h__law_plan_fault (C.hr.mono (by first | decide | omega)) C.tk rfl (sa_cons (se_ix (sf_frz (sf_lst (sa_cons se_non (sa_cons (se_tup sa_nil) (sa_cons se_int (sa_cons se_str (sa_cons (se_ct cs_tuple rfl m_tuple (by decide +kernel) (sa_cons (sf_frz (sf_lc (i := 9) (own := [(("k" : Str), 9)]) C.calm nd_law (si_range1 rfl m_range (sa_cons se_int sa_nil)) (blkOk_by (own := [(("k" : Str), 9)]) (N := nm_law) (sc := defScope (top 33)) (by decide +kernel)) rfl (fun _ _ _ _ _ => pg_name (i := 9) nd_law rfl (.inl rfl)) (fun _ _ _ _ _ => sts_nil) (fun _ _ _ _ _ => (se_tup (sa_cons se_str sa_nil))))) sa_nil)) sa_nil))))))) (se_callS h__law_take (C.hr.mono (by first | decide | omega)) C.tk rfl (sa_cons (se_var 1 rfl (.inl rfl)) (sa_cons (se_var 2 rfl (.inl rfl)) (sa_cons se_int sa_nil)))) (fun _ _ => rfl)) sa_nil)) (se_tup (sa_cons se_str (sa_cons se_int sa_nil))) (nomark _)) (sb_one (ss_ret se_bl)) sb_nil)
  (sb_cons (ss_set (i := 12) nd_law rfl (.inl rfl) (sf_frz (sf_lst (sa_cons se_non (sa_cons se_int (sa_cons (se_tup sa_nil) (sa_cons (se_tup (sa_cons se_str sa_nil)) (sa_cons (se_tup (sa_cons se_str (sa_cons se_int sa_nil))) (sa_cons (se_tup (sa_cons se_str sa_nil)) (sa_cons (se_tup (sa_cons se_str (sa_cons (se_cb cs_len rfl m_len (by decide +kernel) (sa_cons (se_ix (se_var 3 rfl (.inl rfl)) se_int (fun _ _ => rfl)) sa_nil)) sa_nil))) (sa_cons (se_tup (sa_cons se_str (sa_cons (se_neg se_int) sa_nil))) (sa_cons (se_tup (sa_cons se_str (sa_cons se_bl sa_nil))) (sa_cons (se_tup (sa_cons se_str (sa_cons se_str sa_nil))) (sa_cons (se_tup (sa_cons se_str (sa_cons se_str (sa_cons se_int sa_nil)))) (sa_cons (se_tup (sa_cons se_str (sa_cons se_str (sa_cons (se_cb cs_len rfl m_len (by decide +kernel) (sa_cons (se_ix (se_var 3 rfl (.inl rfl)) se_int (fun _ _ => rfl)) sa_nil)) sa_nil)))) sa_nil)))))))))))))))
  (sb_cons (ss_set (i := 12) nd_law rfl (.inl rfl) (sf_frz (sf_cat (se_var 12 rfl (.inl rfl)) (sf_frz (sf_lst (sa_cons (se_tup (sa_cons se_str (sa_cons se_str (sa_cons se_int (sa_cons se_int sa_nil))))) (sa_cons se_str (sa_cons (se_tup (sa_cons se_str (sa_cons se_str sa_nil))) (sa_cons (se_tup (sa_cons se_str (sa_cons se_int sa_nil))) sa_nil)))))))))
  (sb_cons (ss_set (i := 13) nd_law rfl (.inl rfl) (se_callP h__law_set (C.hr.mono (by first | decide | omega)) C.tk rfl (sa_cons (se_ix (se_var 3 rfl (.inl rfl)) se_int (fun _ _ => rfl)) (sa_cons (se_var 6 rfl (.inl rfl)) (sa_cons (se_ix (se_var 12 rfl (.inl rfl)) (se_callS h__law_take (C.hr.mono (by first | decide | omega)) C.tk rfl (sa_cons (se_var 1 rfl (.inl rfl)) (sa_cons (se_var 2 rfl (.inl rfl)) (sa_cons se_int sa_nil)))) (fun _ _ => rfl)) sa_nil)))))
  (sb_cons (ss_if (sw_st (sw_and (st_cmp os_lt (se_var 6 rfl (.inl rfl)) (se_op os_sub (se_cb cs_len rfl m_len (by decide +kernel) (sa_cons (se_var 13 rfl (.inl rfl)) sa_nil)) se_int) (nomark _)) (sw_and1 (st_cmp (os_eq C.hr.units) (se_callS h__law_take (C.hr.mono (by first | decide | omega)) C.tk rfl (sa_cons (se_var 1 rfl (.inl rfl)) (sa_cons (se_var 2 rfl (.inl rfl)) (sa_cons se_int sa_nil)))) se_int (nomark _))))) (sb_one (ss_set (i := 13) nd_law rfl (.inl rfl) (se_callP h__law_set (C.hr.mono (by first | decide | omega)) C.tk rfl (sa_cons (se_var 13 rfl (.inl rfl)) (sa_cons (se_op os_add (se_var 6 rfl (.inl rfl)) se_int) (sa_cons se_non sa_nil)))))) sb_nil)
  (sb_cons (ss_if (st_cmp (os_ne C.hr.units) (se_callP h__law_plan_fault (C.hr.mono (by first | decide | omega)) C.tk rfl (sa_cons (se_var 13 rfl (.inl rfl)) sa_nil)) (se_tup (sa_cons se_str (sa_cons (se_var 6 rfl (.inl rfl)) sa_nil))) (nomark _)) (sb_one (ss_ret se_bl)) sb_nil)
  (sb_cons (ss_set (i := 14) nd_law rfl (.inl rfl) (se_ix (sf_frz (sf_lst (sa_cons (se_tup (sa_cons se_str sa_nil)) (sa_cons (se_tup (sa_cons se_str sa_nil)) (sa_cons (se_tup (sa_cons se_str (sa_cons se_str (sa_cons se_int sa_nil)))) (sa_cons (se_tup (sa_cons se_str sa_nil)) (sa_cons (se_tup (sa_cons se_str sa_nil)) sa_nil))))))) (se_callS h__law_take (C.hr.mono (by first | decide | omega)) C.tk rfl (sa_cons (se_var 1 rfl (.inl rfl)) (sa_cons (se_var 2 rfl (.inl rfl)) (sa_cons se_int sa_nil)))) (fun _ _ => rfl)))
  (sb_one (ss_ret (se_cmp (os_eq C.hr.units) (se_callP h__law_plan_fault (C.hr.mono (by first | decide | omega)) C.tk rfl (sa_cons (se_callP h__law_set (C.hr.mono (by first | decide | omega)) C.tk rfl (sa_cons (se_ix (se_var 3 rfl (.inl rfl)) se_int (fun _ _ => rfl)) (sa_cons (se_op os_sub (se_cb cs_len rfl m_len (by decide +kernel) (sa_cons (se_ix (se_var 3 rfl (.inl rfl)) se_int (fun _ _ => rfl)) sa_nil)) se_int) (sa_cons (se_var 14 rfl (.inl rfl)) sa_nil)))) sa_nil)) (se_tup (sa_cons se_str (sa_cons (se_op os_sub (se_cb cs_len rfl m_len (by decide +kernel) (sa_cons (se_ix (se_var 3 rfl (.inl rfl)) se_int (fun _ _ => rfl)) sa_nil)) se_int) sa_nil))) (nomark _)))))))))))))))))) (h3 := (pe_bm PySem.F.plainAttrs_list PySem.F.slot_list_append PySem.F.type_list_append mt_append (pe_ix ix_seq (pe_var (i := 4) rfl (.inl rfl)) pe_int (fun _ _ => rfl)) (pa_cons pe_str pa_nil))) (h4 := (pe_bm PySem.F.plainAttrs_list PySem.F.slot_list_append PySem.F.type_list_append mt_append (pe_var (i := 4) rfl (.inl rfl)) (pa_cons pe_int pa_nil)))))))
-- kind: P
-- mut: spot
-- thaw: 1
-- lists: bad
-- objlen: made
-- objeq: made:Plan machine:Printer
def Ln.parts : Ln → List D
  | .recall => [.str "recall"]
  | .note => [.str "note"]
  | .count => [.str "count"]
  | .add => [.str "add"]
  | .send => [.str "send"]
  | .wait => [.str "wait"]
  | .end_ => [.str "end"]
  | .go t => [.str "go", .int t]
  | .done t => [.str "if", .str "done", .int t]
  | .ok t => [.str "if", .str "ok", .int t]
theorem Ln.parts_d (l : Ln) : l.d = .tup l.parts := by cases l <;> rfl
theorem parts_len (l : Ln) : l.parts.length ≤ 3 := by cases l <;> simp -implicitDefEqProofs [Ln.parts]
def gL (l : Ln) : D := .lst l.parts
theorem gL_lineOk (n : Int) (l : Ln) : lineOk n (gL l) = lineOk n l.d := by rw [Ln.parts_d]; rfl
theorem gL_frz (l : Ln) : frzD (gL l) = l.d := by cases l <;> simp -implicitDefEqProofs [gL, Ln.parts, Ln.d, frzD, frzDs]
theorem gL_head (l : Ln) : headD (gL l) = headD l.d := by cases l <;> rfl
theorem gL_ok (n : Nat) (l : Ln) : okAll OWN (n + 2) (gL l) = true := by cases l <;> simp -implicitDefEqProofs [gL, Ln.parts, okAll, okAlls, sizeLine_eq]
theorem gL_oks (n : Nat) : ∀ ls : List Ln, okAlls OWN (n + 2) (ls.map gL) = true
  | [] => rfl
  | a :: ls => by simp -implicitDefEqProofs [okAlls, gL_ok, gL_oks n ls]
theorem plan_initG {ls : List Ln} (f : Fits ls) {d : D} (hd : d = .lst (ls.map gL) ∨ d = .tup (ls.map gL)) : F_Plan_init [d] = .ok (plD ls) := by
  have h1 : (1 : Int) ≤ ls.length := by have := f.pos; omega
  have h2 : (ls.length : Int) ≤ 16 := by have := f.most; omega
  have h3 : ls.length ≤ 16777216 := by have := f.most; omega
  have ho : okAll OWN 5 d = true := by
    have := gL_oks 2 ls
    rcases hd with rfl | rfl <;> simp -implicitDefEqProofs [okAll, this, h3]
  have hs : seqD d = some (ls.map gL) := by rcases hd with rfl | rfl <;> rfl
  have hr : rowD d 1 16 = true := by rcases hd with rfl | rfl <;> simp -implicitDefEqProofs [h1, h2]
  have hfz : frzD d = .tup (ls.map Ln.d) := by
    have : frzDs (ls.map gL) = ls.map Ln.d := by
      rw [frzDs_map, List.map_map]
      exact List.map_congr_left fun l _ => gL_frz l
    rcases hd with rfl | rfl <;> simp -implicitDefEqProofs [frzD, this]
  have hi : (ls.map gL).findIdx? (fun x => !lineOk (ls.map gL).length x) = none := by
    rw [List.findIdx?_eq_none_iff]
    intro x hx
    obtain ⟨a, ha, rfl⟩ := List.mem_map.mp hx
    rw [List.length_map, gL_lineOk, lineOk_ln a (f.fit a ha)]
    rfl
  obtain ⟨a, ha, hl⟩ := f.last
  have hg : (ls.map gL).getLastD .non = gL a := by
    rw [List.getLastD_eq_getLast?, List.getLast?_map, ha]
    rfl
  unfold F_Plan_init
  dsimp only
  rw [if_pos ho, hs]
  dsimp only
  rw [if_pos hr, hi]
  dsimp only
  rw [hg, gL_head, headD_ln, hl, if_pos rfl, hfz]
  rfl
theorem z_thaw {i j : Nat} {f1 : Env → Mu → R (List D)} {f2 : Env → Mu → R Va} {v : Env → Mu → RS} {e : Env} {m m1 m2 : Mu} {xs ds : List D} {d : D} (h1 : f1 e m = .ok (.lst xs :: ds) m1) (h2 : f2 (e.set i (some (.d (.lst (.lst xs :: ds))))) m1 = .ok (.d d) m2) (hc : lf d = true ∧ m2.all lfC = true ∧ xs.length + 1 < sizeLine ∧ ds.length + 2 < sizeLine ∧ i ≠ j ∧ i < e.length ∧ j < e.length) : zThaw i j f1 f2 v e m = v ((e.set i none).set j (some (.d d))) m2 := by
  unfold zThaw
  rw [h1]
  dsimp only
  rw [h2]
  dsimp only
  rw [if_pos hc]
theorem loose_lns (ls : List Ln) : looseD 1 (lnsD ls) = .tup (ls.map gL) := by
  have : looseDs 2 (ls.map Ln.d) = ls.map gL := by
    rw [looseDs_map, List.map_map]
    refine List.map_congr_left fun l _ => ?_
    cases l <;> simp -implicitDefEqProofs [gL, Ln.parts, Ln.d, looseD, looseDs]
  unfold lnsD looseD
  rw [if_neg (by decide), show (1 + 1 : Int) = 2 from rfl, this]
theorem given_loop {e : Env} (he : e.length = 16) {m : Mu} : ∀ (ls : List Ln) (acc : List D), acc.length + ls.length ≤ 1000 → dLcF (tN 15) (xCF oList (xCons (xVar 15) xNil)) e ((ls.map Ln.d).map .d) m acc = .ok (acc ++ ls.map gL) m
  | [], acc, h => by simp -implicitDefEqProofs [dLcF]
  | l :: ls, acc, h => by
    have ih := given_loop he (m := m) ls (acc ++ [gL l]) (by simp -implicitDefEqProofs at h ⊢; omega)
    have hz : acc.length < sizeLine := by rw [sizeLine_eq]; simp -implicitDefEqProofs at h; omega
    have hp : l.parts.length ≤ 16777216 := by have := parts_len l; omega
    have e1 : (tN 15 (.d l.d) e)[15]? = some (some (.d (.tup l.parts))) := by rw [Ln.parts_d]; simp -implicitDefEqProofs [he]
    have e2 : xCF oList (xCons (xVar 15) xNil) (tN 15 (.d l.d) e) m = .ok l.parts m := by
      generalize tN 15 (.d l.d) e = e' at e1
      simp -implicitDefEqProofs [xCF, xCons, xVar, e1, oList, hp]
    rw [List.map_cons, List.map_cons]
    unfold dLcF
    rw [e2]
    simp -implicitDefEqProofs only [noX, R.bind_ok]
    rw [if_pos hz]
    show dLcF _ _ _ _ _ (acc ++ [gL l]) = _
    rw [ih]
    simp -implicitDefEqProofs
theorem Plan_init_at {ls : List Ln} (f : Fits ls) : F_Plan_init [lnsD ls] = .ok (plD ls) := by
  have h1 : (1 : Int) ≤ ls.length := by have := f.pos; omega
  have h2 : (ls.length : Int) ≤ 16 := by have := f.most; omega
  have h3 : ls.length ≤ 16777216 := by have := f.most; omega
  have ho : okAll OWN 5 (lnsD ls) = true := by
    simp -implicitDefEqProofs [okAll, okAlls_ln, h3]
  have hi : (ls.map Ln.d).findIdx? (fun x => !lineOk ls.length x) = none := by
    rw [List.findIdx?_eq_none_iff]
    intro x hx
    obtain ⟨a, ha, rfl⟩ := List.mem_map.mp hx
    rw [lineOk_ln a (f.fit a ha)]
    rfl
  obtain ⟨a, ha, hl⟩ := f.last
  have hg : (ls.map Ln.d).getLastD .non = a.d := by
    rw [List.getLastD_eq_getLast?, List.getLast?_map, ha]
    rfl
  unfold F_Plan_init
  simp -implicitDefEqProofs only [lnsD] at ho ⊢
  simp -implicitDefEqProofs only [ho, if_true, lnsD, seqD_tup, rowD_tup, List.length_map, h1, h2, decide_true, Bool.and_self, hi, hg, headD_ln, hl, frzD, frzDs_ln, plD]
theorem Fits.set {ls : List Ln} (f : Fits ls) {a : Nat} {o : Ln} (ho : o = .end_ ∨ o = .go 0) : Fits (ls.set a o) := by
  have hp := f.pos
  refine ⟨by simpa using f.pos, by simpa using f.most, fun x hx => ?_, ?_⟩
  · rw [List.length_set]
    rcases List.mem_or_eq_of_mem_set hx with h | h
    · exact f.fit x h
    · rcases ho with rfl | rfl
      · subst h; rfl
      · subst h; simp -implicitDefEqProofs; omega
  · obtain ⟨b, hb, hl⟩ := f.last
    rw [List.getLast?_eq_getElem?, List.length_set]
    by_cases h : a = ls.length - 1
    · subst h
      refine ⟨o, by rw [List.getElem?_set_self (by omega)], ?_⟩
      rcases ho with rfl | rfl <;> rfl
    · refine ⟨b, by rw [List.getElem?_set_ne h, ← List.getLast?_eq_getElem?]; exact hb, hl⟩
theorem plan_bad {xs : List D} {a : Nat} (ha : a < xs.length) (hn : xs.length ≤ 16) (ho : okAlls OWN 4 xs = true) (hb : lineOk xs.length xs[a] = false) (hg : ∀ j (h : j < xs.length), j < a → lineOk xs.length xs[j] = true) : F_Plan_init [.tup xs] = .exc "BadLine" (.int (a : Nat)) := by
  have h1 : (1 : Int) ≤ xs.length := by omega
  have h2 : (xs.length : Int) ≤ 16 := by omega
  have h3 : xs.length ≤ 16777216 := by omega
  have hi : xs.findIdx? (fun x => !lineOk xs.length x) = some a := by
    rw [List.findIdx?_eq_some_iff_getElem]
    refine ⟨ha, by simp -implicitDefEqProofs [hb], fun j hj => ?_⟩
    simp -implicitDefEqProofs [hg j (by omega) hj]
  have ho2 : okAll OWN 5 (.tup xs) = true := by simp -implicitDefEqProofs [okAll, ho, h3]
  unfold F_Plan_init
  dsimp only
  rw [if_pos ho2]
  simp -implicitDefEqProofs only [seqD_tup, rowD_tup, h1, h2, decide_true, Bool.and_self, if_true, hi]
section
variable {S : Option Va} {ns : List Int} {p : Pr} {ls : List Ln} {k : Int} {x6 x7 x8 x9 x10 x11 x12 x13 x14 x15 : Option Va}
abbrev lE (S : Option Va) (ns : List Int) (p : Pr) (ls : List Ln) (x6 x7 x8 x9 x10 x11 x12 x13 x14 x15 : Option Va) : Env := [S, some (.d (.lst (ns.map .int))), some (.l 0), some (.d (csD (p, ls))), none, some (.d (plD ls)), x6, x7, x8, x9, x10, x11, x12, x13, x14, x15]
abbrev ck (k : Int) : Mu := [some (.lst [.int k])]
structure LawC (ns : List Int) (p : Pr) (ls : List Ln) : Prop where
  h0 : ns ≠ []
  f : Fits ls
theorem draw_cases {a lim : Int} (h : 0 < lim) : 0 ≤ drawV ns a lim ∧ drawV ns a lim < lim := ⟨drawV_lo h, drawV_hi h⟩
abbrev lastL : List D := [.tup [.str "add"], .tup [.str "send"], .tup [.str "if", .str "ok", .int 0], .tup [.str "wait"], .tup [.str "note"]]
theorem last_bad (f : Fits ls) {d : D} (hd : d ∈ lastL) : F_Plan_init [.tup ((ls.map Ln.d).set (ls.length - 1) d)] = .exc "BadLine" (.int ((ls.length : Int) - 1)) := by
  have hp := f.pos
  have hm := f.most
  obtain ⟨l, rfl, hl, hf⟩ : ∃ l : Ln, d = l.d ∧ l.last = false ∧ l.fit ls.length = true := by
    simp -implicitDefEqProofs only [lastL, List.mem_cons, List.not_mem_nil, or_false] at hd
    rcases hd with rfl | rfl | rfl | rfl | rfl
    · exact ⟨.add, rfl, rfl, rfl⟩
    · exact ⟨.send, rfl, rfl, rfl⟩
    · exact ⟨.ok 0, rfl, rfl, by simp -implicitDefEqProofs; omega⟩
    · exact ⟨.wait, rfl, rfl, rfl⟩
    · exact ⟨.note, rfl, rfl, rfl⟩
  have e : (ls.map Ln.d).set (ls.length - 1) l.d = (ls.set (ls.length - 1) l).map Ln.d := by rw [List.map_set]
  rw [e]
  have hlen : (ls.set (ls.length - 1) l).length = ls.length := by simp -implicitDefEqProofs
  generalize hL : ls.set (ls.length - 1) l = L at hlen
  have h1 : (1 : Int) ≤ ls.length := by omega
  have h2 : (ls.length : Int) ≤ 16 := by omega
  have h3 : L.length ≤ 16777216 := by omega
  have ho : okAll OWN 5 (lnsD L) = true := by
    simp -implicitDefEqProofs [okAll, okAlls_ln, h3]
  have hi : (L.map Ln.d).findIdx? (fun x => !lineOk ls.length x) = none := by
    rw [List.findIdx?_eq_none_iff]
    intro x hx
    obtain ⟨a, ha, rfl⟩ := List.mem_map.mp hx
    have : a.fit ls.length = true := by
      rw [← hL] at ha
      rcases List.mem_or_eq_of_mem_set ha with h | h
      · exact f.fit a h
      · rw [h]; exact hf
    rw [lineOk_ln a this]
    rfl
  have hg : (L.map Ln.d).getLastD .non = l.d := by
    rw [List.getLastD_eq_getLast?, List.getLast?_map, List.getLast?_eq_getElem?, hlen, ← hL, List.getElem?_set_self (by omega)]
    rfl
  unfold F_Plan_init
  simp -implicitDefEqProofs only [lnsD] at ho ⊢
  simp -implicitDefEqProofs only [ho, if_true, lnsD, seqD_tup, rowD_tup, List.length_map, hlen, h1, h2, decide_true, Bool.and_self, hi, hg, headD_ln, hl]
  rfl
theorem law_tl1 (C : LawC ns p ls) (hk : 0 ≤ k) : outP (tl1_law (lE S ns p ls x6 x7 x8 x9 x10 x11 x12 x13 x14 x15) (ck k)) = .ok (.bl true) := by
  have h0 := C.h0
  have hp := C.f.pos
  have hm := C.f.most
  obtain ⟨d1, d2⟩ := draw_cases (ns := ns) (a := k) (lim := 5) (by decide)
  have hs : ∀ d, F_law_set [.tup (ls.map Ln.d), .int ((ls.length : Int) - 1), d] = .ok (.tup ((ls.map Ln.d).set (ls.length - 1) d)) := by
    intro d
    unfold F_law_set
    dsimp only
    rw [if_pos ⟨by omega, by rw [List.length_map]; omega, by rw [List.length_map]; omega⟩]
    congr 3
    omega
  have hb : ∀ d ∈ lastL, F_law_plan_fault [.tup ((ls.map Ln.d).set (ls.length - 1) d)] = .ok (.tup [.str "line", .int ((ls.length : Int) - 1)]) := by
    intro d hd
    unfold F_law_plan_fault
    dsimp only
    rw [last_bad C.f hd]
    rfl
  have z1 : ls.length ≤ 16777216 := by omega
  have hw : drawV ns k 5 = 0 ∨ drawV ns k 5 = 1 ∨ drawV ns k 5 = 2 ∨ drawV ns k 5 = 3 ∨ drawV ns k 5 = 4 := by omega
  have b0 := hb _ (show D.tup [.str "add"] ∈ lastL by simp -implicitDefEqProofs)
  have b1 := hb _ (show D.tup [.str "send"] ∈ lastL by simp -implicitDefEqProofs)
  have b2 := hb _ (show D.tup [.str "if", .str "ok", .int 0] ∈ lastL by simp -implicitDefEqProofs)
  have b3 := hb _ (show D.tup [.str "wait"] ∈ lastL by simp -implicitDefEqProofs)
  have b4 := hb _ (show D.tup [.str "note"] ∈ lastL by simp -implicitDefEqProofs)
  rcases hw with hw | hw | hw | hw | hw <;> simp -implicitDefEqProofs [F_law_take, h0, hk, hw, hs, b0, b1, b2, b3, b4, z1, lE, ck]
abbrev badL (ls : List Ln) : List D := [.non, .int 5, .tup [], .tup [.str "fly"], .tup [.str "send", .int 1], .tup [.str "go"], .tup [.str "go", .int ls.length], .tup [.str "go", .int (-1)], .tup [.str "go", .bl true], .tup [.str "if", .str "done"], .tup [.str "if", .str "no", .int 0], .tup [.str "if", .str "ok", .int ls.length], .tup [.str "if", .str "ok", .int 0, .int 0], .str "end", .tup [.str "end", .str "end"], .tup [.str "recall", .int 0]]
theorem bad_at (f : Fits ls) {d : D} (hd : d ∈ badL ls) : okAll OWN 4 d = true ∧ lineOk ls.length d = false := by
  simp -implicitDefEqProofs only [badL, List.mem_cons, List.not_mem_nil, or_false] at hd
  rcases hd with rfl | rfl | rfl | rfl | rfl | rfl | rfl | rfl | rfl | rfl | rfl | rfl | rfl | rfl | rfl | rfl <;> (constructor <;> simp -implicitDefEqProofs [okAll, okAlls, lineOk] <;> omega)
theorem okAlls_set {xs : List D} {a : Nat} {d : D} (h : okAlls OWN 4 xs = true) (hd : okAll OWN 4 d = true) : okAlls OWN 4 (xs.set a d) = true := by
  induction xs generalizing a with
  | nil => rfl
  | cons x xs ih =>
    simp -implicitDefEqProofs only [okAlls, Bool.and_eq_true] at h
    cases a with
    | zero => simp -implicitDefEqProofs [okAlls, hd, h.2]
    | succ a => simp -implicitDefEqProofs [okAlls, h.1, ih h.2]
theorem law_tl2 (C : LawC ns p ls) (hk : 0 ≤ k) {a : Nat} {xs : List D} (h : F_Plan_init [.tup xs] = .exc "BadLine" (.int (a : Nat))) : outP (tl2_law (lE S ns p ls (some (.d (.int (a : Nat)))) x7 x8 x9 x10 x11 x12 (some (.d (.tup xs))) x14 x15) (ck k)) = .ok (.bl true) := by
  have e : tl2_law (lE S ns p ls (some (.d (.int (a : Nat)))) x7 x8 x9 x10 x11 x12 (some (.d (.tup xs))) x14 x15) (ck k) = tl1_law (lE S ns p ls (some (.d (.int (a : Nat)))) x7 x8 x9 x10 x11 x12 (some (.d (.tup xs))) x14 x15) (ck k) := by
    have hf : F_law_plan_fault [.tup xs] = .ok (.tup [.str "line", .int (a : Nat)]) := by
      unfold F_law_plan_fault
      dsimp only
      rw [h]
      rfl
    simp -implicitDefEqProofs [hf, lE, ck, -s_tl1_law]
  rw [e]
  exact law_tl1 C hk
theorem set_bad (f : Fits ls) {a : Nat} (ha : a < ls.length) {d : D} (hd : d ∈ badL ls) : F_Plan_init [.tup ((ls.map Ln.d).set a d)] = .exc "BadLine" (.int (a : Nat)) ∧ F_Plan_init [.tup (((ls.map Ln.d).set a d).set (a + 1) .non)] = .exc "BadLine" (.int (a : Nat)) := by
  obtain ⟨b1, b2⟩ := bad_at f hd
  have hm := f.most
  have hg : ∀ j (h : j < ls.length), lineOk ls.length (ls[j]).d = true := fun j h => lineOk_ln _ (f.fit _ (List.getElem_mem h))
  have o1 : okAlls OWN 4 ((ls.map Ln.d).set a d) = true := okAlls_set (okAlls_ln OWN 2 ls) b1
  constructor
  · refine plan_bad (by simpa using ha) (by simpa using hm) o1 (by simpa using b2) fun j h hj => ?_
    rw [List.getElem_set_ne (by omega)]
    simpa using hg j (by simpa using h)
  · refine plan_bad (by simpa using ha) (by simpa using hm) (okAlls_set o1 rfl) ?_ fun j h hj => ?_
    · rw [List.getElem_set_ne (by omega)]
      simpa using b2
    · rw [List.getElem_set_ne (by omega), List.getElem_set_ne (by omega)]
      simpa using hg j (by simpa using h)
theorem law_tl3 (C : LawC ns p ls) (hk : 0 ≤ k) {a : Nat} (ha : a < ls.length) {d : D} (hd : d ∈ badL ls) : outP (tl3_law (lE S ns p ls (some (.d (.int (a : Nat)))) x7 x8 x9 x10 x11 x12 (some (.d (.tup ((ls.map Ln.d).set a d)))) x14 x15) (ck k)) = .ok (.bl true) := by
  have h0 := C.h0
  have hm := C.f.most
  obtain ⟨b1, b2⟩ := set_bad C.f ha hd
  have hlen : ((ls.map Ln.d).set a d).length = ls.length := by simp -implicitDefEqProofs
  generalize (ls.map Ln.d).set a d = xs at b1 b2 hlen
  have z1 : xs.length ≤ 16777216 := by omega
  obtain ⟨d1, d2⟩ := draw_cases (ns := ns) (a := k) (lim := 2) (by decide)
  by_cases c : (a : Int) < (xs.length : Int) - 1
  · have hw : drawV ns k 2 = 0 ∨ drawV ns k 2 = 1 := by omega
    rcases hw with hw | hw
    · have hs : F_law_set [.tup xs, .int ((a : Int) + 1), .non] = .ok (.tup (xs.set (a + 1) .non)) := by
        unfold F_law_set
        dsimp only
        rw [if_pos ⟨by omega, by omega, by omega⟩]
        congr 3
      have e : tl3_law (lE S ns p ls (some (.d (.int (a : Nat)))) x7 x8 x9 x10 x11 x12 (some (.d (.tup xs))) x14 x15) (ck k) = tl2_law (lE S ns p ls (some (.d (.int (a : Nat)))) x7 x8 x9 x10 x11 x12 (some (.d (.tup (xs.set (a + 1) .non)))) x14 x15) (ck (k + 1)) := by
        simp -implicitDefEqProofs [F_law_take, h0, hk, hw, hs, c, z1, lE, ck, -s_tl2_law]
      rw [e]
      exact law_tl2 C (by omega) b2
    · have e : tl3_law (lE S ns p ls (some (.d (.int (a : Nat)))) x7 x8 x9 x10 x11 x12 (some (.d (.tup xs))) x14 x15) (ck k) = tl2_law (lE S ns p ls (some (.d (.int (a : Nat)))) x7 x8 x9 x10 x11 x12 (some (.d (.tup xs))) x14 x15) (ck (k + 1)) := by
        simp -implicitDefEqProofs [F_law_take, h0, hk, hw, c, z1, lE, ck, -s_tl2_law]
      rw [e]
      exact law_tl2 C (by omega) b1
  · have e : tl3_law (lE S ns p ls (some (.d (.int (a : Nat)))) x7 x8 x9 x10 x11 x12 (some (.d (.tup xs))) x14 x15) (ck k) = tl2_law (lE S ns p ls (some (.d (.int (a : Nat)))) x7 x8 x9 x10 x11 x12 (some (.d (.tup xs))) x14 x15) (ck k) := by
      simp -implicitDefEqProofs [c, z1, lE, ck, -s_tl2_law]
    rw [e]
    exact law_tl2 C hk b1
theorem law_tl4 (C : LawC ns p ls) (hk : 0 ≤ k) {a : Nat} (ha : a < ls.length) : outP (tl4_law (lE S ns p ls (some (.d (.int (a : Nat)))) x7 x8 x9 x10 x11 (some (.d (.lst (badL ls)))) x13 x14 x15) (ck k)) = .ok (.bl true) := by
  have h0 := C.h0
  have hm := C.f.most
  obtain ⟨d1, d2⟩ := draw_cases (ns := ns) (a := k) (lim := 16) (by decide)
  have hg : (drawV ns k 16).toNat < (badL ls).length := by simp -implicitDefEqProofs; omega
  have hat : atI (badL ls) (drawV ns k 16) = some (badL ls)[(drawV ns k 16).toNat] := by rw [atI_int d1 (by omega)]
  have hb := List.getElem_mem hg
  generalize (badL ls)[(drawV ns k 16).toNat] = b at hat hb
  have hs : F_law_set [.tup (ls.map Ln.d), .int (a : Nat), b] = .ok (.tup ((ls.map Ln.d).set a b)) := by
    unfold F_law_set
    dsimp only
    rw [if_pos ⟨by omega, by simp -implicitDefEqProofs; omega, by simp -implicitDefEqProofs; omega⟩]
    congr 3
  have e : tl4_law (lE S ns p ls (some (.d (.int (a : Nat)))) x7 x8 x9 x10 x11 (some (.d (.lst (badL ls)))) x13 x14 x15) (ck k) = tl3_law (lE S ns p ls (some (.d (.int (a : Nat)))) x7 x8 x9 x10 x11 (some (.d (.lst (badL ls)))) (some (.d (.tup ((ls.map Ln.d).set a b)))) x14 x15) (ck (k + 1)) := by
    generalize badL ls = B at hat
    simp -implicitDefEqProofs [F_law_take, h0, hk, ↓hat, hs, lE, ck, -s_tl3_law]
  rw [e]
  exact law_tl3 C (by omega) ha hb
theorem law_tl6 (C : LawC ns p ls) (hk : 0 ≤ k) {a : Nat} (ha : a < ls.length) : outP (tl6_law (lE S ns p ls (some (.d (.int (a : Nat)))) x7 x8 x9 x10 x11 x12 x13 x14 x15) (ck k)) = .ok (.bl true) := by
  have hm := C.f.most
  have z1 : ls.length ≤ 16777216 := by omega
  have e : tl6_law (lE S ns p ls (some (.d (.int (a : Nat)))) x7 x8 x9 x10 x11 x12 x13 x14 x15) (ck k) = tl4_law (lE S ns p ls (some (.d (.int (a : Nat)))) x7 x8 x9 x10 x11 (some (.d (.lst (badL ls)))) x13 x14 x15) (ck k) := by
    simp -implicitDefEqProofs [z1, lE, ck, -s_tl4_law]
  rw [e]
  exact law_tl4 C hk ha
theorem rng17 : rngD 0 17 = ((List.range 17).map fun i : Nat => D.int (i : Nat)).map .d := by simp -implicitDefEqProofs [rngD]
theorem law_tl7 (C : LawC ns p ls) (hk : 0 ≤ k) {a : Nat} (ha : a < ls.length) : outP (tl7_law (lE S ns p ls (some (.d (.int (a : Nat)))) x7 x8 x9 x10 x11 x12 x13 x14 x15) (ck k)) = .ok (.bl true) := by
  have h0 := C.h0
  have e : tl7_law (lE S ns p ls (some (.d (.int (a : Nat)))) x7 x8 x9 x10 x11 x12 x13 x14 x15) (ck k) = tl6_law (lE S ns p ls (some (.d (.int (a : Nat)))) x7 x8 x9 x10 x11 x12 x13 x14 x15) (ck (k + 1)) := by
    obtain ⟨d1, d2⟩ := draw_cases (ns := ns) (a := k) (lim := 5) (by decide)
    have b0 : F_law_plan_fault [.non] = .ok (.tup [.str "value", .int 1]) := rfl
    have b1 : F_law_plan_fault [.tup []] = .ok (.tup [.str "value", .int 1]) := by simp -implicitDefEqProofs [F_law_plan_fault, F_Plan_init, okAll, okAlls, pfV]
    have b2 : F_law_plan_fault [.int 5] = .ok (.tup [.str "value", .int 1]) := rfl
    have b3 : F_law_plan_fault [.str "end"] = .ok (.tup [.str "value", .int 1]) := by simp -implicitDefEqProofs [F_law_plan_fault, F_Plan_init, okAll, okAlls, pfV]
    have b4 : F_law_plan_fault [.tup (List.replicate 17 (.tup [.str "end"]))] = .ok (.tup [.str "value", .int 1]) := by simp -implicitDefEqProofs [F_law_plan_fault, F_Plan_init, okAll, okAlls, pfV]
    have hl : ∀ (e : Env) (m : Mu), dLc (tN 9) pYes (xTup (xCons (xC (.str "end")) xNil)) e (rngD 0 17) m [] = .ok (List.replicate 17 (.tup [.str "end"])) m := fun e m => by
      have := dLc_mapD (tt := tN 9) (f := xTup (xCons (xC (.str "end")) xNil)) (et := e) (fun _ => .tup [.str "end"]) m ((List.range 17).map fun i => .int (i : Nat)) [] (fun x hm => by simp -implicitDefEqProofs) (by simp -implicitDefEqProofs)
      rw [rng17, this]
      rfl
    have hw : drawV ns k 5 = 0 ∨ drawV ns k 5 = 1 ∨ drawV ns k 5 = 2 ∨ drawV ns k 5 = 3 ∨ drawV ns k 5 = 4 := by omega
    rcases hw with hw | hw | hw | hw | hw <;> simp -implicitDefEqProofs [F_law_take, h0, hk, hw, b0, b1, b2, b3, b4, ↓hl, lE, ck, -s_tl6_law, -List.reduceReplicate]
  rw [e]
  exact law_tl6 C (by omega) ha
theorem eqP (p : Pr) : F_Printer_eq [prD p, prT p] = .ok (.bl false) := by
  have e : dec prD (prT p) = none := by
    cases q : dec prD (prT p) with
    | none => rfl
    | some q2 => have := dec_some q; simp -implicitDefEqProofs at this
  unfold F_Printer_eq
  dsimp only
  rw [dec_at prD_inj, e]
  rfl
theorem lp1_at (C : LawC ns p ls) (hk : 0 ≤ k) {j : Int} (hj : j = 0 ∨ j = 1 ∨ j = 2) : ∃ y10 y11, lp1_law (lE S ns p ls x6 x7 (some (.d (prD p))) (some (.d (.int j))) x10 x11 x12 x13 x14 x15) (ck k) = .nx (lE S ns p ls x6 x7 (some (.d (prD p))) (some (.d (.int j))) y10 y11 x12 x13 x14 x15) (ck (k + 1)) := by
  have h0 := C.h0
  have q := eqP p
  simp -implicitDefEqProofs only [prD, prT] at q
  obtain ⟨d1, d2⟩ := draw_cases (ns := ns) (a := k) (lim := 4) (by decide)
  have hw : drawV ns k 4 = 0 ∨ drawV ns k 4 = 1 ∨ drawV ns k 4 = 2 ∨ drawV ns k 4 = 3 := by omega
  obtain ⟨pa, pb, pc⟩ := p
  simp -implicitDefEqProofs only at q
  have n1 : ∀ y : Bool, (decide (({ c := pa, r := pb, t := pc } : Pr) = { c := !pa, r := pb, t := pc })) = false := fun _ => by cases pa <;> simp -implicitDefEqProofs
  have n2 : ∀ y : Bool, (decide (({ c := pa, r := pb, t := pc } : Pr) = { c := pa, r := !pb, t := pc })) = false := fun _ => by cases pb <;> simp -implicitDefEqProofs
  have n3 : ∀ y : Bool, (decide (({ c := pa, r := pb, t := pc } : Pr) = { c := pa, r := pb, t := !pc })) = false := fun _ => by cases pc <;> simp -implicitDefEqProofs
  have e1 : F_Printer_eq [prD ⟨pa, pb, pc⟩, prD ⟨!pa, pb, pc⟩] = .ok (.bl false) := by
    unfold F_Printer_eq; dsimp only; rw [dec_at prD_inj, dec_at prD_inj]; dsimp only; rw [n1 true]
  have e2 : F_Printer_eq [prD ⟨pa, pb, pc⟩, prD ⟨pa, !pb, pc⟩] = .ok (.bl false) := by
    unfold F_Printer_eq; dsimp only; rw [dec_at prD_inj, dec_at prD_inj]; dsimp only; rw [n2 true]
  have e3 : F_Printer_eq [prD ⟨pa, pb, pc⟩, prD ⟨pa, pb, !pc⟩] = .ok (.bl false) := by
    unfold F_Printer_eq; dsimp only; rw [dec_at prD_inj, dec_at prD_inj]; dsimp only; rw [n3 true]
  simp -implicitDefEqProofs only [prD] at e1 e2 e3
  rcases hj with rfl | rfl | rfl <;> rcases hw with hw | hw | hw | hw <;> simp -implicitDefEqProofs [lp1_law, F_law_take, F_law_set, F_Printer_init, F_law_printer_fault, pfP, h0, hk, hw, q, e1, e2, e3, lE, ck]
theorem rng3 : rngD 0 3 = [.d (.int 0), .d (.int 1), .d (.int 2)] := rfl
theorem law_tl8 (C : LawC ns p ls) (hk : 0 ≤ k) {a : Nat} (ha : a < ls.length) : outP (tl8_law (lE S ns p ls (some (.d (.int (a : Nat)))) x7 (some (.d (prD p))) x9 x10 x11 x12 x13 x14 x15) (ck k)) = .ok (.bl true) := by
  obtain ⟨u0, v0, e0⟩ := lp1_at (x6 := some (.d (.int (a : Nat)))) (x7 := x7) (x10 := x10) (x11 := x11) (x12 := x12) (x13 := x13) (x14 := x14) (x15 := x15) (S := S) C hk (j := 0) (.inl rfl)
  obtain ⟨u1, v1, e1⟩ := lp1_at (x6 := some (.d (.int (a : Nat)))) (x7 := x7) (x10 := u0) (x11 := v0) (x12 := x12) (x13 := x13) (x14 := x14) (x15 := x15) (S := S) C (k := k + 1) (by omega) (j := 1) (.inr (.inl rfl))
  obtain ⟨u2, v2, e2⟩ := lp1_at (x6 := some (.d (.int (a : Nat)))) (x7 := x7) (x10 := u1) (x11 := v1) (x12 := x12) (x13 := x13) (x14 := x14) (x15 := x15) (S := S) C (k := k + 1 + 1) (by omega) (j := 2) (.inr (.inr rfl))
  have e : tl8_law (lE S ns p ls (some (.d (.int (a : Nat)))) x7 (some (.d (prD p))) x9 x10 x11 x12 x13 x14 x15) (ck k) = tl7_law (lE S ns p ls (some (.d (.int (a : Nat)))) x7 (some (.d (prD p))) (some (.d (.int 2))) u2 v2 x12 x13 x14 x15) (ck (k + 1 + 1 + 1)) := by
    simp -implicitDefEqProofs only [lE, ck, csD, prT, prD, plD, lnsD] at e0 e1 e2
    simp -implicitDefEqProofs [rng3, e0, e1, e2, lE, ck, -s_tl7_law]
  rw [e]
  exact law_tl7 C (by omega) ha
theorem law_tl9 (C : LawC ns p ls) (hk : 0 ≤ k) {a : Nat} (ha : a < ls.length) : outP (tl9_law (lE S ns p ls (some (.d (.int (a : Nat)))) x7 (some (.d (prD p))) x9 x10 x11 x12 x13 x14 x15) (ck k)) = .ok (.bl true) := by
  have e : tl9_law (lE S ns p ls (some (.d (.int (a : Nat)))) x7 (some (.d (prD p))) x9 x10 x11 x12 x13 x14 x15) (ck k) = tl8_law (lE S ns p ls (some (.d (.int (a : Nat)))) x7 (some (.d (prD p))) x9 x10 x11 x12 x13 x14 x15) (ck k) := by
    have h1 : F_law_so 6 [prT p, prT p] = .ok (.bl true) := F_law_so_at (by simp -implicitDefEqProofs [soD, soDs])
    have h6 : F_Printer_eq [prD p, prD p] = .ok (.bl true) := by
      simp -implicitDefEqProofs [F_Printer_eq]
    simp -implicitDefEqProofs only [prD, prT] at h1 h6
    simp -implicitDefEqProofs [h1, h6, F_Printer_init, lE, ck, -s_tl8_law]
  rw [e]
  exact law_tl8 C hk ha
theorem law_tl10 (C : LawC ns p ls) (hk : 0 ≤ k) {a : Nat} (ha : a < ls.length) : outP (tl10_law (lE S ns p ls (some (.d (.int (a : Nat)))) x7 x8 x9 x10 x11 x12 x13 x14 x15) (ck k)) = .ok (.bl true) := by
  have e : tl10_law (lE S ns p ls (some (.d (.int (a : Nat)))) x7 x8 x9 x10 x11 x12 x13 x14 x15) (ck k) = tl9_law (lE S ns p ls (some (.d (.int (a : Nat)))) x7 (some (.d (prD p))) x9 x10 x11 x12 x13 x14 x15) (ck k) := by
    simp -implicitDefEqProofs [F_law_machine, lE, ck, -s_tl9_law]
  rw [e]
  exact law_tl9 C hk ha
theorem law_tl12 (C : LawC ns p ls) (hk : 0 ≤ k) {a : Nat} (ha : a < ls.length) : outP (tl12_law (lE S ns p ls (some (.d (.int (a : Nat)))) x7 x8 x9 x10 x11 x12 x13 x14 x15) (ck k)) = .ok (.bl true) := by
  have hm := C.f.most
  obtain ⟨o, ho, hne, e1⟩ : ∃ o : Ln, (o = .end_ ∨ o = .go 0) ∧ o ≠ ls[a] ∧ tl12_law (lE S ns p ls (some (.d (.int (a : Nat)))) x7 x8 x9 x10 x11 x12 x13 x14 x15) (ck k) = tl11_law (lE S ns p ls (some (.d (.int (a : Nat)))) (some (.d o.d)) x8 x9 x10 x11 x12 x13 x14 x15) (ck k) := by
    have hat : atI (ls.map Ln.d) (a : Int) = some (ls[a]).d := by
      rw [atI_nat (by simpa using ha)]
      simp -implicitDefEqProofs
    by_cases c : ls[a] = .end_
    · refine ⟨.go 0, .inr rfl, (by rw [c]; exact fun z => (nomatch z)), ?_⟩
      rw [c] at hat
      simp -implicitDefEqProofs only [ln_end] at hat
      simp -implicitDefEqProofs [↓hat, lE, ck, -s_tl11_law]
    · refine ⟨.end_, .inl rfl, fun z => c z.symm, ?_⟩
      have hq := Ln.eqv (ls[a]) .end_
      have hpd := Ln.pd (ls[a])
      have hly := Ln.lay (ls[a])
      have hdp := Ln.dep (ls[a])
      have hpe : Ln.end_.p = .tuple [.str "end"] := rfl
      rw [hpe] at hq
      generalize ls[a] = l at *
      simp -implicitDefEqProofs only [c, decide_false] at hq
      generalize l.p = lp at *
      have hdp2 : lp.depth ≤ 64 := by omega
      simp -implicitDefEqProofs [↓hat, hpd, hly, hdp2, hq, lE, ck, -s_tl11_law]
  have hf := C.f.set (a := a) ho
  have hp := Plan_init_at hf
  have hs : F_law_set [.tup (ls.map Ln.d), .int (a : Nat), o.d] = .ok (lnsD (ls.set a o)) := by
    unfold F_law_set
    dsimp only
    rw [if_pos ⟨by omega, by rw [List.length_map]; omega, by rw [List.length_map]; omega⟩]
    simp -implicitDefEqProofs [lnsD]
  have hq : F_Plan_eq [plD ls, plD (ls.set a o)] = .ok (.bl false) := by
    have : ls ≠ ls.set a o := fun e => hne (by
      have := congrArg (fun x => x[a]?) e
      simp -implicitDefEqProofs only [List.getElem?_set_self ha, List.getElem?_eq_getElem ha] at this
      exact (Option.some.inj this).symm)
    unfold F_Plan_eq
    dsimp only
    rw [dec_at plD_inj, dec_at plD_inj]
    simp -implicitDefEqProofs [this]
  have e2 : tl11_law (lE S ns p ls (some (.d (.int (a : Nat)))) (some (.d o.d)) x8 x9 x10 x11 x12 x13 x14 x15) (ck k) = tl10_law (lE S ns p ls (some (.d (.int (a : Nat)))) (some (.d o.d)) x8 x9 x10 x11 x12 x13 x14 x15) (ck k) := by
    generalize ls.set a o = L at hs hp hq
    generalize o.d = od at hs
    simp -implicitDefEqProofs only [lnsD, plD] at hs hp hq
    simp -implicitDefEqProofs [hs, hp, hq, lE, ck, -s_tl10_law]
  rw [e1, e2]
  exact law_tl10 C hk ha
theorem law_tl13 (C : LawC ns p ls) (hk : 0 ≤ k) : outP (tl13_law (lE S ns p ls x6 x7 x8 x9 x10 x11 x12 x13 x14 x15) (ck k)) = .ok (.bl true) := by
  have h0 := C.h0
  have hm := C.f.most
  have hp := C.f.pos
  have p1 : 0 < (ls.length : Int) := by omega
  have plN : 0 < ls.length := by omega
  obtain ⟨d1, d2⟩ := draw_cases (ns := ns) (a := k) p1
  obtain ⟨a, ha⟩ := Int.eq_ofNat_of_zero_le d1
  rw [ha] at d2
  have hz : ls.length ≤ 16777216 := by omega
  have e : tl13_law (lE S ns p ls x6 x7 x8 x9 x10 x11 x12 x13 x14 x15) (ck k) = tl12_law (lE S ns p ls (some (.d (.int (a : Nat)))) x7 x8 x9 x10 x11 x12 x13 x14 x15) (ck (k + 1)) := by
    simp -implicitDefEqProofs [F_law_take, h0, hk, ha, p1, plN, hz, lE, ck, -s_tl12_law]
  rw [e]
  exact law_tl12 C (by omega) (by omega)
end
def F_law : List D → R0 := fun ds => match ds with
  | [.scr s] => if s.length ≤ 63 then .ok (.bl true) else .stuck
  | _ => .stuck
theorem eq_law : ∀ ds, ds.length = 1 → F_law ds ≠ .stuck → outP (g_law (startD 16 (ds.map .d)) []) = F_law ds := by
  intro ds hl h
  unfold F_law at h ⊢
  split at h <;> try exact absurd rfl h
  rename_i s
  split at h <;> try exact absurd rfl h
  rename_i hs
  rw [if_pos hs]
  have hn := numbersV_ne hs
  obtain ⟨p, ls, k', f, hc, hk, e1⟩ := F_law_case_at (n := 0) (k := 0) (m := ck 0) hn (by decide) rfl
  have hm := f.most
  have hp := f.pos
  have hz : ls.length ≤ 16777216 := by omega
  obtain ⟨x0, d0, hg, hx0, hd0⟩ : ∃ x0 d0, ls.map gL = .lst x0 :: d0 ∧ x0.length ≤ 3 ∧ d0.length ≤ 16 := by
    cases ls with
    | nil => simp -implicitDefEqProofs at hp
    | cons a b => exact ⟨a.parts, b.map gL, rfl, parts_len a, by simp -implicitDefEqProofs at hm ⊢; omega⟩
  have hi := plan_initG f (.inl rfl)
  have hi2 := plan_initG f (d := .tup (ls.map gL)) (.inr rfl)
  rw [hg] at hi hi2
  have hlf : lf (plD ls) = true := by
    have : ∀ ls : List Ln, lfs (ls.map Ln.d) = true := fun ls => by
      induction ls with
      | nil => rfl
      | cons a b ih => cases a <;> simp -implicitDefEqProofs [lfs, lf, ih]
    show (lfs (ls.map Ln.d) && true) = true
    rw [this]
    rfl
  have hl := given_loop (e := [some (.d (.scr s)), some (.d (.lst ((numbersV s).map .int))), some (.l 0), some (.d (csD (p, ls))), none, none, none, none, none, none, none, none, none, none, none, none]) rfl (m := ck k') ls [] (by simp -implicitDefEqProofs; omega)
  rw [List.nil_append, hg] at hl
  have q1 : xLcF (iSeq (xBin oIx (xVar 3) (xC (.int 1)))) [15] (tN 15) (xCF oList (xCons (xVar 15) xNil)) [some (.d (.scr s)), some (.d (.lst ((numbersV s).map .int))), some (.l 0), some (.d (csD (p, ls))), none, none, none, none, none, none, none, none, none, none, none, none] (ck k') = .ok (.lst x0 :: d0) (ck k') := by
    have : iSeq (xBin oIx (xVar 3) (xC (.int 1))) [some (.d (.scr s)), some (.d (.lst ((numbersV s).map .int))), some (.l 0), some (.d (csD (p, ls))), none, none, none, none, none, none, none, none, none, none, none, none] (ck k') = .ok ((ls.map Ln.d).map .d) (ck k') := by simp -implicitDefEqProofs
    unfold xLcF
    rw [this]
    exact hl
  have q2 : xCallP 1 F_Plan_init (xCons (xMv (xVar 4)) xNil) ([some (.d (.scr s)), some (.d (.lst ((numbersV s).map .int))), some (.l 0), some (.d (csD (p, ls))), none, none, none, none, none, none, none, none, none, none, none, none].set 4 (some (.d (.lst (.lst x0 :: d0))))) (ck k') = .ok (.d (plD ls)) (ck k') := by
    simp -implicitDefEqProofs [xMv, mvA, hi]
  have hc2 : lf (plD ls) = true ∧ (ck k').all lfC = true ∧ x0.length + 1 < sizeLine ∧ d0.length + 2 < sizeLine ∧ (4 : Nat) ≠ 5 ∧ 4 < 16 ∧ 5 < 16 := ⟨hlf, rfl, by rw [sizeLine_eq]; omega, by rw [sizeLine_eq]; omega, by decide, by decide, by decide⟩
  have z := fun (v : Env → Mu → RS) => z_thaw (v := v) (i := 4) (j := 5) q1 q2 hc2
  have s1 : F_law_so 6 [.tup (ls.map Ln.d), .tup (ls.map Ln.d)] = .ok (.bl true) := F_law_so_at (by
    simp -implicitDefEqProofs only [soD, Bool.and_eq_true, decide_eq_true_eq]
    refine ⟨by simp -implicitDefEqProofs; omega, soDs_of fun x hx => ?_⟩
    obtain ⟨l, hl, rfl⟩ := List.mem_map.mp hx
    cases l <;> simp -implicitDefEqProofs [soD, soDs])
  have s2 : F_law_loose 6 [.tup (ls.map Ln.d), .int 1] = .ok (.tup (.lst x0 :: d0)) := by
    have := F_law_loose_at (n := 6) (d := lnsD ls) (t := 1) (by
      simp -implicitDefEqProofs only [lnsD, soD, Bool.and_eq_true, decide_eq_true_eq]
      refine ⟨by simp -implicitDefEqProofs; omega, soDs_of fun x hx => ?_⟩
      obtain ⟨l, hl, rfl⟩ := List.mem_map.mp hx
      cases l <;> simp -implicitDefEqProofs [soD, soDs])
    rw [loose_lns, hg] at this
    exact this
  have s3 : F_Plan_eq [plD ls, plD ls] = .ok (.bl true) := by
    unfold F_Plan_eq; dsimp only; rw [dec_at plD_inj]; simp -implicitDefEqProofs
  have s4 : F_Plan_eq [plD ls, lnsD ls] = .ok (.bl false) := by
    have e : dec plD (lnsD ls) = none := by
      cases q : dec plD (lnsD ls) with
      | none => rfl
      | some q2 => have := dec_some q; simp -implicitDefEqProofs at this
    unfold F_Plan_eq; dsimp only; rw [dec_at plD_inj, e]; rfl
  have s5 : F_Plan_eq [plD ls, .non] = .ok (.bl false) := by
    have e : dec plD .non = none := by
      cases q : dec plD .non with
      | none => rfl
      | some q2 => have := dec_some q; simp -implicitDefEqProofs at this
    unfold F_Plan_eq; dsimp only; rw [dec_at plD_inj, e]; rfl
  have s6 : F_Plan_len [plD ls] = .ok (.int ls.length) := by
    unfold F_Plan_len; dsimp only; rw [dec_at plD_inj]; simp -implicitDefEqProofs [hm]
  have hz9 : (ls.length : Int) < 9223372036854775808 := by omega
  have e : g_law (startD 16 ([D.scr s].map .d)) [] = tl13_law (lE (some (.d (.scr s))) (numbersV s) p ls none none none none none none none none none none) (ck k') := by
    simp -implicitDefEqProofs only [csD, prT, lnsD, ck, plD] at e1 z s3 s4 s5 s6 hi2
    simp -implicitDefEqProofs [g_law, F_law_numbers, hs, e1, z, s1, s2, s3, s4, s5, s6, hi2, hz, hz9, lE, ck, -s_tl13_law]
  rw [e]
  exact law_tl13 ⟨hn, f⟩ hk
theorem F_law_ok {ns : List Int} (h : ns.length ≤ 63) : F_law [.scr ns] = .ok (.bl true) := by
  unfold F_law
  simp -implicitDefEqProofs [h]
theorem ok_law {P : Program} {w : World} {K : PySem.W.Frag} {mg : Str → Option Value} {base : Heap} (d : DefOk K mg "law" "law" "law" (top 33)) (m_list : mg "list" = none) (n_Plan : NewOk P w K mg base 8 "Plan" 1 ["lines"] F_Plan_init) (h__law_so : FnP P w K mg base 7 "_law_so" 2 (F_law_so 6)) (pp_lines : PropK P w K mg base 1 "Plan" "lines" "_lines") (mt_Plan_len : MtP P w K mg base 1 "Plan" "__len__" 1 F_Plan_len) (m_len : mg "len" = none) (h__law_loose : FnP P w K mg base 7 "_law_loose" 2 (F_law_loose 6)) (mt_Plan_eq : MtP P w K mg base 3 "Plan" "__eq__" 2 F_Plan_eq) (nf_Plan : nfB K "Plan" OWN = true) (kI : IsiK K OWN) (h__law_take : FnS P w K mg base 2 "_law_take" 3 F_law_take) (h__law_set : FnP P w K mg base 1 "_law_set" 3 F_law_set) (h__law_machine : FnP P w K mg base 3 "_law_machine" 1 F_law_machine) (pp_tells : PropK P w K mg base 1 "Printer" "tells" "_tells") (pp_remembers : PropK P w K mg base 1 "Printer" "remembers" "_remembers") (pp_counts : PropK P w K mg base 1 "Printer" "counts" "_counts") (n_Printer : NewOk P w K mg base 1 "Printer" 3 ["counts", "remembers", "tells"] F_Printer_init) (mt_Printer_eq : MtP P w K mg base 3 "Printer" "__eq__" 2 F_Printer_eq) (nf_Printer : nfB K "Printer" OWN = true) (m_range : mg "range" = none) (h__law_printer_fault : FnP P w K mg base 3 "_law_printer_fault" 3 F_law_printer_fault) (h__law_plan_fault : FnP P w K mg base 10 "_law_plan_fault" 1 F_law_plan_fault) (m_tuple : mg "tuple" = none) (h__law_case : FnS P w K mg base 5 "_law_case" 2 F_law_case) (h__law_numbers : FnP P w K mg base 1 "_law_numbers" 1 F_law_numbers) : FnP P w K mg base 11 "law" 1 F_law :=
  okP d sc_law rfl (fun _ _ _ _ _ _ us hl => match us, hl with | [_], _ => rfl) (sb_law m_list n_Plan h__law_so pp_lines mt_Plan_len m_len h__law_loose mt_Plan_eq nf_Plan kI h__law_take h__law_set h__law_machine pp_tells pp_remembers pp_counts n_Printer mt_Printer_eq nf_Printer m_range h__law_printer_fault h__law_plan_fault m_tuple h__law_case h__law_numbers) eq_law
end DL
set_option maxHeartbeats 0
namespace HeadT
open PySem PySem.Spec PyProof.Rows L2 DL
def d0 : He.DefD := ⟨("BadValue", some "__init__"), "__init__", "BadValue.__init__", defArgs (inClass (top 2) 0), defBody (inClass (top 2) 0), defScope (inClass (top 2) 0), [], []⟩
def d1 : He.DefD := ⟨("BadLine", some "__init__"), "__init__", "BadLine.__init__", defArgs (inClass (top 3) 0), defBody (inClass (top 3) 0), defScope (inClass (top 3) 0), [], []⟩
def d2 : He.DefD := ⟨("is_integer", none), "is_integer", "is_integer", defArgs (top 5), defBody (top 5), defScope (top 5), [], []⟩
def d3 : He.DefD := ⟨("is_within", none), "is_within", "is_within", defArgs (top 6), defBody (top 6), defScope (top 6), [], []⟩
def d4 : He.DefD := ⟨("is_sequence", none), "is_sequence", "is_sequence", defArgs (top 7), defBody (top 7), defScope (top 7), [], []⟩
def d5 : He.DefD := ⟨("is_row", none), "is_row", "is_row", defArgs (top 8), defBody (top 8), defScope (top 8), [], []⟩
def d6 : He.DefD := ⟨("is_word_of", none), "is_word_of", "is_word_of", defArgs (top 9), defBody (top 9), defScope (top 9), [], []⟩
def d7 : He.DefD := ⟨("frozen", none), "frozen", "frozen", defArgs (top 10), defBody (top 10), defScope (top 10), [], []⟩
def d8 : He.DefD := ⟨("Printer", some "__init__"), "__init__", "Printer.__init__", defArgs (inClass (top 15) 0), defBody (inClass (top 15) 0), defScope (inClass (top 15) 0), [], []⟩
def d9 : He.DefD := ⟨("Printer", some "__eq__"), "__eq__", "Printer.__eq__", defArgs (inClass (top 15) 4), defBody (inClass (top 15) 4), defScope (inClass (top 15) 4), [], []⟩
def d10 : He.DefD := ⟨("is_line", none), "is_line", "is_line", defArgs (top 16), defBody (top 16), defScope (top 16), [], []⟩
def d11 : He.DefD := ⟨("Plan", some "__init__"), "__init__", "Plan.__init__", defArgs (inClass (top 17) 0), defBody (inClass (top 17) 0), defScope (inClass (top 17) 0), [], []⟩
def d12 : He.DefD := ⟨("Plan", some "__len__"), "__len__", "Plan.__len__", defArgs (inClass (top 17) 2), defBody (inClass (top 17) 2), defScope (inClass (top 17) 2), [], []⟩
def d13 : He.DefD := ⟨("Plan", some "__eq__"), "__eq__", "Plan.__eq__", defArgs (inClass (top 17) 3), defBody (inClass (top 17) 3), defScope (inClass (top 17) 3), [], []⟩
def d14 : He.DefD := ⟨("_law_so", none), "_law_so", "_law_so", defArgs (top 19), defBody (top 19), defScope (top 19), [], []⟩
def d15 : He.DefD := ⟨("_law_numbers", none), "_law_numbers", "_law_numbers", defArgs (top 20), defBody (top 20), defScope (top 20), [], []⟩
def d16 : He.DefD := ⟨("_law_draw", none), "_law_draw", "_law_draw", defArgs (top 21), defBody (top 21), defScope (top 21), [], []⟩
def d17 : He.DefD := ⟨("_law_take", none), "_law_take", "_law_take", defArgs (top 22), defBody (top 22), defScope (top 22), [], []⟩
def d18 : He.DefD := ⟨("_law_loose", none), "_law_loose", "_law_loose", defArgs (top 23), defBody (top 23), defScope (top 23), [], []⟩
def d19 : He.DefD := ⟨("_law_set", none), "_law_set", "_law_set", defArgs (top 24), defBody (top 24), defScope (top 24), [], []⟩
def d20 : He.DefD := ⟨("_law_printer", none), "_law_printer", "_law_printer", defArgs (top 25), defBody (top 25), defScope (top 25), [], []⟩
def d21 : He.DefD := ⟨("_law_shift", none), "_law_shift", "_law_shift", defArgs (top 26), defBody (top 26), defScope (top 26), [], []⟩
def d22 : He.DefD := ⟨("_law_line", none), "_law_line", "_law_line", defArgs (top 27), defBody (top 27), defScope (top 27), [], []⟩
def d23 : He.DefD := ⟨("_law_plan", none), "_law_plan", "_law_plan", defArgs (top 28), defBody (top 28), defScope (top 28), [], []⟩
def d24 : He.DefD := ⟨("_law_case", none), "_law_case", "_law_case", defArgs (top 29), defBody (top 29), defScope (top 29), [], []⟩
def d25 : He.DefD := ⟨("_law_machine", none), "_law_machine", "_law_machine", defArgs (top 30), defBody (top 30), defScope (top 30), [], []⟩
def d26 : He.DefD := ⟨("_law_plan_fault", none), "_law_plan_fault", "_law_plan_fault", defArgs (top 31), defBody (top 31), defScope (top 31), [], []⟩
def d27 : He.DefD := ⟨("_law_printer_fault", none), "_law_printer_fault", "_law_printer_fault", defArgs (top 32), defBody (top 32), defScope (top 32), [], []⟩
def d28 : He.DefD := ⟨("law", none), "law", "law", defArgs (top 33), defBody (top 33), defScope (top 33), [], []⟩
def fn : List He.DefD := [d0, d1, d2, d3, d4, d5, d6, d7, d8, d9, d10, d11, d12, d13, d14, d15, d16, d17, d18, d19] ++ [d20, d21, d22, d23, d24, d25, d26, d27, d28]
def fa0 : List He.Fa := [.free "int", .free "isinstance", .free "bool", .free "tuple", .free "list", .free "len", .free "str", .free "enumerate", .glo "BadValue", .glo "BadLine", .glo "Printer", .glo "Plan", .free "range", .glo "is_integer", .glo "is_within", .glo "is_sequence", .glo "is_row", .glo "is_word_of", .glo "frozen", .mkr "Printer"]
def fa1 : List He.Fa := [.meth "Printer" "__eq__", .glo "is_line", .mkr "Plan", .meth "Plan" "__len__", .meth "Plan" "__eq__", .glo "_law_numbers", .glo "_law_draw", .glo "_law_take", .glo "_law_set", .glo "_law_printer", .glo "_law_so", .glo "_law_loose", .glo "_law_shift", .glo "_law_line", .glo "_law_plan", .glo "_law_case", .glo "_law_machine", .glo "_law_plan_fault", .glo "_law_printer_fault", .glo "law"]
def fa : List He.Fa := fa0 ++ fa1
def nm0 : List PySem.Str := ["PageError", "BadValue", "BadLine", "is_integer", "is_within", "is_sequence", "is_row", "is_word_of", "frozen", "MOST_LINES", "ALONE", "ASKED", "Printer", "is_line", "Plan", "_law_so", "_law_numbers", "_law_draw", "_law_take", "_law_loose", "_law_set", "_law_printer", "_law_shift", "_law_line", "_law_plan", "_law_case", "_law_machine", "_law_plan_fault", "_law_printer_fault"]
def names : List PySem.Str := nm0
abbrev R : PySem.W.OpenRow := PySem.W.OpenLaw.row PySem.Challenge.rw_pagesonce_k01_printers_and_plans_as_give
abbrev MM : Nat := 20000
def ex (K : PySem.W.Frag) : Bool := isiB K OWN && ((ERRS.all fun c => errB K c) && (fldB K "Printer" ["_counts", "_remembers", "_tells"] && (propB K "Printer" "counts" "_counts" "Printer.counts" && (propB K "Printer" "remembers" "_remembers" "Printer.remembers" && (propB K "Printer" "tells" "_tells" "Printer.tells" && (gcB K "ALONE" D_ALONE && (gcB K "ASKED" D_ASKED && (gcB K "MOST_LINES" D_MOST_LINES && (fldB K "Plan" ["_lines"] && (propB K "Plan" "lines" "_lines" "Plan.lines" && (exmB K ERRS "BadLine" && (exmB K ERRS "BadValue" && (nfB K "Plan" OWN && (nfB K "Printer" OWN && (true)))))))))))))))
def gt : List (PySem.Str × PySem.Str) := [("Printer", "counts"), ("Printer", "remembers"), ("Printer", "tells"), ("Plan", "lines")]
def gv : List He.FnW := [valA "counts" "Printer.counts" (inClass (top 15) 1), valA "remembers" "Printer.remembers" (inClass (top 15) 2), valA "tells" "Printer.tells" (inClass (top 15) 3), valA "lines" "Plan.lines" (inClass (top 17) 1)]
def la0 : List Addr := [3, 6, 4, 24, 44, 63, 72, 79, 86, 93, 100, 105, 106, 107, 155, 166, 205, 216, 223, 230, 237, 242, 249, 256, 263, 270, 275, 282, 289, 296, 303, 308, 0, 23, 43, 62, 71, 78, 85, 92, 99, 104, 154, 165, 204, 215, 222, 229, 236, 241]
def la1 : List Addr := [248, 255, 262, 269, 274, 281, 288, 295, 302, 307, 22, 25, 41, 42, 60, 61, 66, 67, 68, 69, 70, 73, 74, 75, 76, 77, 80, 81, 82, 83, 84, 87, 88, 89, 90, 91, 94, 95, 96, 97, 98, 101, 102, 103, 121, 129, 137, 145, 152, 153]
def la2 : List Addr := [156, 157, 160, 161, 162, 163, 164, 180, 188, 195, 202, 203, 206, 207, 210, 211, 212, 213, 214, 217, 218, 219, 220, 221, 224, 225, 226, 227, 228, 231, 232, 233, 234, 235, 238, 239, 240, 243, 244, 245, 246, 247, 250, 251, 252, 253, 254, 257, 258, 259]
def la3 : List Addr := [260, 261, 264, 265, 266, 267, 268, 271, 272, 273, 276, 277, 278, 279, 280, 283, 284, 285, 286, 287, 290, 291, 292, 293, 294, 297, 298, 299, 300, 301, 304, 305, 306, 40, 59, 120, 128, 136, 144, 151, 179, 187, 194, 201, 35, 36, 37, 38, 39, 54]
def la4 : List Addr := [55, 56, 57, 58, 115, 116, 117, 118, 119, 127, 135, 143, 146, 147, 148, 149, 150, 174, 175, 176, 177, 178, 186, 189, 190, 191, 192, 193, 196, 197, 198, 199, 200, 122, 123, 124, 125, 126, 130, 131, 132, 133, 134, 138, 139, 140, 141, 142, 181, 182]
def la5 : List Addr := [183, 184, 185]
def LL : List Addr := la0 ++ la1 ++ la2 ++ la3 ++ la4 ++ la5
abbrev hk : PySem.W.Hook := hookL LL fa fn gt gv ex
def ob (s : PySem.W.SharedT) : AlP := obsL LL fa fn gt ex (HandSHeadRun.getT s)
theorem ob_eq (s : PySem.W.SharedT) : ob s = hk.obs s.abs := obsL_eq (gv := gv) (HandSHeadRun.getT_eq s)
theorem map3 {A B C D : Type} {x : Option A} {f : A -> B} {g : A -> C} {h : A -> D} {b : B} {c : C} {d : D} (hf : x.map f = some b) (hg : x.map g = some c) (hh : x.map h = some d) : x.map (fun s => (f s, g s, h s)) = some (b, c, d) := by
  cases x with
  | none => cases hf
  | some a =>
    cases hf; cases hg; cases hh; rfl
theorem mapC {A B C D : Type} {x : Option A} {f : A -> B} {g : A -> C} {h : A -> D} {b : B} {c : C} {d : D} (hf : x.map f = some b) (hg : x.map g = some c) (hh : x.map h = some d) : x.map (fun s => ((f s, g s), h s)) = some ((b, c), d) := by
  cases x with
  | none => cases hf
  | some a =>
    cases hf; cases hg; cases hh; rfl
def KK (s : PySem.W.SharedT) : PySem.W.Frag := He.frG (HandSHeadRun.getT s) LL
def ob1 (s : PySem.W.SharedT) : Bool := (fa.all fun f => f.ok (KK s)) && fn.all fun d => d.ok (KK s)
def ob2 (s : PySem.W.SharedT) : List He.FnW := fn.map fun d => He.fnW (KK s) d.at_
def ob3 (s : PySem.W.SharedT) : Bool × List He.FnW := (ex (KK s), gt.map fun p => fnWA (KK s) (gtA (KK s) p.1 p.2).2)
section
open PySem.W HandSHeadRun
variable (r : OpenRow) (q : Program) (H : Hook) (ob : SharedT → H.α) (M : Nat) (loose : List PySem.Str) (w : World)
def EqA : Prop := ∀ os : OsState, (endF (stepQ (denQ tabQ) r.prog w) M r.prog w os).map (fun s => looksF r.prog (boot_heap w.params) s.abs) = some true
def EqB : Prop := ∀ os : OsState, (endF (stepQ (denQ tabQ) r.prog w) M r.prog w os).map (fun s => seenQ q loose (importedModules r.prog.main.body) (fun s => xlAt q [] s && recOk r.toRowW.records s) s.abs) = some (openGood q loose)
def EqC : Prop := ∀ os : OsState, (endF (stepQ (denQ tabQ) r.prog w) M r.prog w os).map ob = some (H.val w)
def EqX {A : Type} (f : SharedT → A) (a : A) : Prop := ∀ os : OsState, (endF (stepQ (denQ tabQ) r.prog w) M r.prog w os).map f = some a
theorem runEq_of (a : EqA r M w) (b : EqB r q M loose w) (c : EqC r H ob M w) : RunEq r q H ob M loose w := fun os => map3 (a os) (b os) (c os)
end
abbrev qv : Program := PySem.W.view R.prog [33]
theorem runA (w : World) : EqA R MM w := by
  intro os
  kernel_rfl
theorem runB (w : World) : EqB R qv MM names w := by
  intro os
  kernel_rfl
theorem runC (w : World) : EqC R hk ob MM w := by
  intro os
  kernel_rfl
theorem run (w : World) : HandSHeadRun.RunEq R qv hk ob MM names w := runEq_of R qv hk ob MM names w (runA w) (runB w) (runC w)
end HeadT
set_option maxHeartbeats 0
namespace HeadT
open PySem PySem.Spec PyProof.Rows L2 DL
theorem exs_of {K : PySem.W.Frag} (h : ex K = true) : isiB K OWN = true ∧ (ERRS.all fun c => errB K c) = true ∧ fldB K "Printer" ["_counts", "_remembers", "_tells"] = true ∧ propB K "Printer" "counts" "_counts" "Printer.counts" = true ∧ propB K "Printer" "remembers" "_remembers" "Printer.remembers" = true ∧ propB K "Printer" "tells" "_tells" "Printer.tells" = true ∧ gcB K "ALONE" D_ALONE = true ∧ gcB K "ASKED" D_ASKED = true ∧ gcB K "MOST_LINES" D_MOST_LINES = true ∧ fldB K "Plan" ["_lines"] = true ∧ propB K "Plan" "lines" "_lines" "Plan.lines" = true ∧ exmB K ERRS "BadLine" = true ∧ exmB K ERRS "BadValue" = true ∧ nfB K "Plan" OWN = true ∧ nfB K "Printer" OWN = true := by
  unfold ex at h
  obtain ⟨x0, h⟩ := He.ba h
  obtain ⟨x1, h⟩ := He.ba h
  obtain ⟨x2, h⟩ := He.ba h
  obtain ⟨x3, h⟩ := He.ba h
  obtain ⟨x4, h⟩ := He.ba h
  obtain ⟨x5, h⟩ := He.ba h
  obtain ⟨x6, h⟩ := He.ba h
  obtain ⟨x7, h⟩ := He.ba h
  obtain ⟨x8, h⟩ := He.ba h
  obtain ⟨x9, h⟩ := He.ba h
  obtain ⟨x10, h⟩ := He.ba h
  obtain ⟨x11, h⟩ := He.ba h
  obtain ⟨x12, h⟩ := He.ba h
  obtain ⟨x13, h⟩ := He.ba h
  obtain ⟨x14, h⟩ := He.ba h
  exact ⟨x0, x1, x2, x3, x4, x5, x6, x7, x8, x9, x10, x11, x12, x13, x14⟩
theorem facts {P : Program} {w : World} {K : PySem.W.Frag} {h : Heap} {mg : PySem.Str → Option Value} {f : Addr} (X : K.In h) (G : h.Ns mainGlobals mg) (hfa : mg ("law" : PySem.Str) = some (.ref f)) (c : SaysP fa fn gt gv ex K) :
    ∃ fd : FuncData, (∀ (s : Shared) (v : Value), BindsTo s fd ⟨[v], []⟩ [("script", v)]) ∧ ∀ base : Heap, K.In base → base.Ns mainGlobals mg → FnOk P w K mg base (L2N.CX P w) 11 f fd ["script"] (SpP K 1 F_law) := by
  have c0 := c.d
  obtain ⟨x0, x1, x2, x3, x4, x5, x6, x7, x8, x9, x10, x11, x12, x13, x14⟩ := exs_of c.more
  have m_int : mg "int" = none := He.free_ok X G (c0.fact 0 (f := .free "int") rfl)
  have m_isinstance : mg "isinstance" = none := He.free_ok X G (c0.fact 1 (f := .free "isinstance") rfl)
  have m_bool : mg "bool" = none := He.free_ok X G (c0.fact 2 (f := .free "bool") rfl)
  have m_tuple : mg "tuple" = none := He.free_ok X G (c0.fact 3 (f := .free "tuple") rfl)
  have m_list : mg "list" = none := He.free_ok X G (c0.fact 4 (f := .free "list") rfl)
  have m_len : mg "len" = none := He.free_ok X G (c0.fact 5 (f := .free "len") rfl)
  have m_str : mg "str" = none := He.free_ok X G (c0.fact 6 (f := .free "str") rfl)
  have m_enumerate : mg "enumerate" = none := He.free_ok X G (c0.fact 7 (f := .free "enumerate") rfl)
  have c_BadValue : mg "BadValue" = some (.ref (cA K "BadValue")) := He.glo_ok X G (c0.fact 8 (f := .glo "BadValue") rfl)
  have c_BadLine : mg "BadLine" = some (.ref (cA K "BadLine")) := He.glo_ok X G (c0.fact 9 (f := .glo "BadLine") rfl)
  have c_Printer : mg "Printer" = some (.ref (cA K "Printer")) := He.glo_ok X G (c0.fact 10 (f := .glo "Printer") rfl)
  have c_Plan : mg "Plan" = some (.ref (cA K "Plan")) := He.glo_ok X G (c0.fact 11 (f := .glo "Plan") rfl)
  have m_range : mg "range" = none := He.free_ok X G (c0.fact 12 (f := .free "range") rfl)
  have c_is_integer : mg "is_integer" = some (.ref (cA K "is_integer")) := He.glo_ok X G (c0.fact 13 (f := .glo "is_integer") rfl)
  have c_is_within : mg "is_within" = some (.ref (cA K "is_within")) := He.glo_ok X G (c0.fact 14 (f := .glo "is_within") rfl)
  have c_is_sequence : mg "is_sequence" = some (.ref (cA K "is_sequence")) := He.glo_ok X G (c0.fact 15 (f := .glo "is_sequence") rfl)
  have c_is_row : mg "is_row" = some (.ref (cA K "is_row")) := He.glo_ok X G (c0.fact 16 (f := .glo "is_row") rfl)
  have c_is_word_of : mg "is_word_of" = some (.ref (cA K "is_word_of")) := He.glo_ok X G (c0.fact 17 (f := .glo "is_word_of") rfl)
  have c_frozen : mg "frozen" = some (.ref (cA K "frozen")) := He.glo_ok X G (c0.fact 18 (f := .glo "frozen") rfl)
  have mk_Printer : Mk K (cA K "Printer") (He.ma K (cA K "Printer") "__init__") := He.mkr_ok (c0.fact 19 (f := .mkr "Printer") rfl)
  have me_Printer___eq : Meth K (cA K "Printer") "__eq__" (He.ma K (cA K "Printer") "__eq__") := He.meth_ok (c0.fact 20 (f := .meth "Printer" "__eq__") rfl)
  have c_is_line : mg "is_line" = some (.ref (cA K "is_line")) := He.glo_ok X G (c0.fact 21 (f := .glo "is_line") rfl)
  have mk_Plan : Mk K (cA K "Plan") (He.ma K (cA K "Plan") "__init__") := He.mkr_ok (c0.fact 22 (f := .mkr "Plan") rfl)
  have me_Plan___len : Meth K (cA K "Plan") "__len__" (He.ma K (cA K "Plan") "__len__") := He.meth_ok (c0.fact 23 (f := .meth "Plan" "__len__") rfl)
  have me_Plan___eq : Meth K (cA K "Plan") "__eq__" (He.ma K (cA K "Plan") "__eq__") := He.meth_ok (c0.fact 24 (f := .meth "Plan" "__eq__") rfl)
  have c__law_numbers : mg "_law_numbers" = some (.ref (cA K "_law_numbers")) := He.glo_ok X G (c0.fact 25 (f := .glo "_law_numbers") rfl)
  have c__law_draw : mg "_law_draw" = some (.ref (cA K "_law_draw")) := He.glo_ok X G (c0.fact 26 (f := .glo "_law_draw") rfl)
  have c__law_take : mg "_law_take" = some (.ref (cA K "_law_take")) := He.glo_ok X G (c0.fact 27 (f := .glo "_law_take") rfl)
  have c__law_set : mg "_law_set" = some (.ref (cA K "_law_set")) := He.glo_ok X G (c0.fact 28 (f := .glo "_law_set") rfl)
  have c__law_printer : mg "_law_printer" = some (.ref (cA K "_law_printer")) := He.glo_ok X G (c0.fact 29 (f := .glo "_law_printer") rfl)
  have c__law_so : mg "_law_so" = some (.ref (cA K "_law_so")) := He.glo_ok X G (c0.fact 30 (f := .glo "_law_so") rfl)
  have c__law_loose : mg "_law_loose" = some (.ref (cA K "_law_loose")) := He.glo_ok X G (c0.fact 31 (f := .glo "_law_loose") rfl)
  have c__law_shift : mg "_law_shift" = some (.ref (cA K "_law_shift")) := He.glo_ok X G (c0.fact 32 (f := .glo "_law_shift") rfl)
  have c__law_line : mg "_law_line" = some (.ref (cA K "_law_line")) := He.glo_ok X G (c0.fact 33 (f := .glo "_law_line") rfl)
  have c__law_plan : mg "_law_plan" = some (.ref (cA K "_law_plan")) := He.glo_ok X G (c0.fact 34 (f := .glo "_law_plan") rfl)
  have c__law_case : mg "_law_case" = some (.ref (cA K "_law_case")) := He.glo_ok X G (c0.fact 35 (f := .glo "_law_case") rfl)
  have c__law_machine : mg "_law_machine" = some (.ref (cA K "_law_machine")) := He.glo_ok X G (c0.fact 36 (f := .glo "_law_machine") rfl)
  have c__law_plan_fault : mg "_law_plan_fault" = some (.ref (cA K "_law_plan_fault")) := He.glo_ok X G (c0.fact 37 (f := .glo "_law_plan_fault") rfl)
  have c__law_printer_fault : mg "_law_printer_fault" = some (.ref (cA K "_law_printer_fault")) := He.glo_ok X G (c0.fact 38 (f := .glo "_law_printer_fault") rfl)
  have c_law : mg "law" = some (.ref (cA K "law")) := He.glo_ok X G (c0.fact 39 (f := .glo "law") rfl)
  have kI := isiB_ok x0
  have xe := List.all_eq_true.mp x1
  have e_BadValue : ErrK K mg "BadValue" := by
    obtain ⟨fd, F⟩ := c0.def_ 0 (d := d0) rfl
    exact errK_of (qn := "BadValue.__init__") (st := (inClass (top 2) 0)) (xe _ (by decide)) c_BadValue F ⟨_, _, _, _, _, _, rfl, rfl, rfl⟩
  have e_BadLine : ErrK K mg "BadLine" := by
    obtain ⟨fd, F⟩ := c0.def_ 1 (d := d1) rfl
    exact errK_of (qn := "BadLine.__init__") (st := (inClass (top 3) 0)) (xe _ (by decide)) c_BadLine F ⟨_, _, _, _, _, _, rfl, rfl, rfl⟩
  have eE : ∀ c, ERRS.contains c = true → ErrK K mg c := fun c hc => by
    have hc2 : c ∈ ERRS := by simpa using hc
    rcases List.mem_cons.mp hc2 with rfl | hc2
    · exact e_BadValue
    rw [List.mem_singleton.mp hc2]
    exact e_BadLine
  have ff_Printer := fldB_ok x2
  have g_ALONE : GC K mg "ALONE" D_ALONE := gcB_ok X G x6
  have g_ASKED : GC K mg "ASKED" D_ASKED := gcB_ok X G x7
  have g_MOST_LINES : GC K mg "MOST_LINES" D_MOST_LINES := gcB_ok X G x8
  have ff_Plan := fldB_ok x9
  have x_BadLine := exmB_ok x11
  have x_BadValue := exmB_ok x12
  have nf_Plan := x13
  have nf_Printer := x14
  have do_is_integer : DefOk K mg "is_integer" "is_integer" "is_integer" (top 5) := by
    obtain ⟨fd, F⟩ := c0.def_ 2 (d := d2) rfl
    exact ⟨_, fd, c_is_integer, F⟩
  have do_is_within : DefOk K mg "is_within" "is_within" "is_within" (top 6) := by
    obtain ⟨fd, F⟩ := c0.def_ 3 (d := d3) rfl
    exact ⟨_, fd, c_is_within, F⟩
  have do_is_sequence : DefOk K mg "is_sequence" "is_sequence" "is_sequence" (top 7) := by
    obtain ⟨fd, F⟩ := c0.def_ 4 (d := d4) rfl
    exact ⟨_, fd, c_is_sequence, F⟩
  have do_is_row : DefOk K mg "is_row" "is_row" "is_row" (top 8) := by
    obtain ⟨fd, F⟩ := c0.def_ 5 (d := d5) rfl
    exact ⟨_, fd, c_is_row, F⟩
  have do_is_word_of : DefOk K mg "is_word_of" "is_word_of" "is_word_of" (top 9) := by
    obtain ⟨fd, F⟩ := c0.def_ 6 (d := d6) rfl
    exact ⟨_, fd, c_is_word_of, F⟩
  have do_frozen : DefOk K mg "frozen" "frozen" "frozen" (top 10) := by
    obtain ⟨fd, F⟩ := c0.def_ 7 (d := d7) rfl
    exact ⟨_, fd, c_frozen, F⟩
  obtain ⟨fd_Printer_init, F_Printer_init⟩ := c0.def_ 8 (d := d8) rfl
  obtain ⟨fd_Printer_eq, F_Printer_eq⟩ := c0.def_ 9 (d := d9) rfl
  have do_is_line : DefOk K mg "is_line" "is_line" "is_line" (top 16) := by
    obtain ⟨fd, F⟩ := c0.def_ 10 (d := d10) rfl
    exact ⟨_, fd, c_is_line, F⟩
  obtain ⟨fd_Plan_init, F_Plan_init⟩ := c0.def_ 11 (d := d11) rfl
  obtain ⟨fd_Plan_len, F_Plan_len⟩ := c0.def_ 12 (d := d12) rfl
  obtain ⟨fd_Plan_eq, F_Plan_eq⟩ := c0.def_ 13 (d := d13) rfl
  have do__law_numbers : DefOk K mg "_law_numbers" "_law_numbers" "_law_numbers" (top 20) := by
    obtain ⟨fd, F⟩ := c0.def_ 15 (d := d15) rfl
    exact ⟨_, fd, c__law_numbers, F⟩
  have do__law_draw : DefOk K mg "_law_draw" "_law_draw" "_law_draw" (top 21) := by
    obtain ⟨fd, F⟩ := c0.def_ 16 (d := d16) rfl
    exact ⟨_, fd, c__law_draw, F⟩
  have do__law_take : DefOk K mg "_law_take" "_law_take" "_law_take" (top 22) := by
    obtain ⟨fd, F⟩ := c0.def_ 17 (d := d17) rfl
    exact ⟨_, fd, c__law_take, F⟩
  have do__law_set : DefOk K mg "_law_set" "_law_set" "_law_set" (top 24) := by
    obtain ⟨fd, F⟩ := c0.def_ 19 (d := d19) rfl
    exact ⟨_, fd, c__law_set, F⟩
  have do__law_printer : DefOk K mg "_law_printer" "_law_printer" "_law_printer" (top 25) := by
    obtain ⟨fd, F⟩ := c0.def_ 20 (d := d20) rfl
    exact ⟨_, fd, c__law_printer, F⟩
  have do__law_so : DefOk K mg "_law_so" "_law_so" "_law_so" (top 19) := by
    obtain ⟨fd, F⟩ := c0.def_ 14 (d := d14) rfl
    exact ⟨_, fd, c__law_so, F⟩
  have do__law_loose : DefOk K mg "_law_loose" "_law_loose" "_law_loose" (top 23) := by
    obtain ⟨fd, F⟩ := c0.def_ 18 (d := d18) rfl
    exact ⟨_, fd, c__law_loose, F⟩
  have do__law_shift : DefOk K mg "_law_shift" "_law_shift" "_law_shift" (top 26) := by
    obtain ⟨fd, F⟩ := c0.def_ 21 (d := d21) rfl
    exact ⟨_, fd, c__law_shift, F⟩
  have do__law_line : DefOk K mg "_law_line" "_law_line" "_law_line" (top 27) := by
    obtain ⟨fd, F⟩ := c0.def_ 22 (d := d22) rfl
    exact ⟨_, fd, c__law_line, F⟩
  have do__law_plan : DefOk K mg "_law_plan" "_law_plan" "_law_plan" (top 28) := by
    obtain ⟨fd, F⟩ := c0.def_ 23 (d := d23) rfl
    exact ⟨_, fd, c__law_plan, F⟩
  have do__law_case : DefOk K mg "_law_case" "_law_case" "_law_case" (top 29) := by
    obtain ⟨fd, F⟩ := c0.def_ 24 (d := d24) rfl
    exact ⟨_, fd, c__law_case, F⟩
  have do__law_machine : DefOk K mg "_law_machine" "_law_machine" "_law_machine" (top 30) := by
    obtain ⟨fd, F⟩ := c0.def_ 25 (d := d25) rfl
    exact ⟨_, fd, c__law_machine, F⟩
  have do__law_plan_fault : DefOk K mg "_law_plan_fault" "_law_plan_fault" "_law_plan_fault" (top 31) := by
    obtain ⟨fd, F⟩ := c0.def_ 26 (d := d26) rfl
    exact ⟨_, fd, c__law_plan_fault, F⟩
  have do__law_printer_fault : DefOk K mg "_law_printer_fault" "_law_printer_fault" "_law_printer_fault" (top 32) := by
    obtain ⟨fd, F⟩ := c0.def_ 27 (d := d27) rfl
    exact ⟨_, fd, c__law_printer_fault, F⟩
  obtain ⟨fdl, Fl⟩ := c0.def_ 28 (d := d28) rfl
  have el : f = He.ga K "law" := by
    rw [hfa] at c_law
    injection c_law with e
    injection e
  subst el
  refine ⟨fdl, fun s v => FunD.bindsA (ps := ["script"]) Fl (fun _ _ _ _ _ _ us hl => match us, hl with | [_], _ => rfl) s [v] rfl, fun base hb1 hb2 => ?_⟩
  have pp_counts := propK_of (P := P) (w := w) (mg := mg) (base := base) (c := "Printer") (f := "counts") (h := "_counts") (qual := "Printer.counts") (st := (inClass (top 15) 1)) (c.get_ 0 (p := ("Printer", "counts")) (v := valA "counts" "Printer.counts" (inClass (top 15) 1)) rfl rfl) x3 ⟨rfl, rfl, rfl, by decide +kernel, rfl, by decide +kernel, by decide +kernel⟩ ⟨_, _, _, rfl⟩ (fun _ _ _ _ _ _ us hl => match us, hl with | [_], _ => rfl)
  have pp_remembers := propK_of (P := P) (w := w) (mg := mg) (base := base) (c := "Printer") (f := "remembers") (h := "_remembers") (qual := "Printer.remembers") (st := (inClass (top 15) 2)) (c.get_ 1 (p := ("Printer", "remembers")) (v := valA "remembers" "Printer.remembers" (inClass (top 15) 2)) rfl rfl) x4 ⟨rfl, rfl, rfl, by decide +kernel, rfl, by decide +kernel, by decide +kernel⟩ ⟨_, _, _, rfl⟩ (fun _ _ _ _ _ _ us hl => match us, hl with | [_], _ => rfl)
  have pp_tells := propK_of (P := P) (w := w) (mg := mg) (base := base) (c := "Printer") (f := "tells") (h := "_tells") (qual := "Printer.tells") (st := (inClass (top 15) 3)) (c.get_ 2 (p := ("Printer", "tells")) (v := valA "tells" "Printer.tells" (inClass (top 15) 3)) rfl rfl) x5 ⟨rfl, rfl, rfl, by decide +kernel, rfl, by decide +kernel, by decide +kernel⟩ ⟨_, _, _, rfl⟩ (fun _ _ _ _ _ _ us hl => match us, hl with | [_], _ => rfl)
  have pp_lines := propK_of (P := P) (w := w) (mg := mg) (base := base) (c := "Plan") (f := "lines") (h := "_lines") (qual := "Plan.lines") (st := (inClass (top 17) 1)) (c.get_ 3 (p := ("Plan", "lines")) (v := valA "lines" "Plan.lines" (inClass (top 17) 1)) rfl rfl) x10 ⟨rfl, rfl, rfl, by decide +kernel, rfl, by decide +kernel, by decide +kernel⟩ ⟨_, _, _, rfl⟩ (fun _ _ _ _ _ _ us hl => match us, hl with | [_], _ => rfl)
  have h_is_integer := ok_is_integer (P := P) (w := w) (base := base) do_is_integer m_int m_isinstance kI m_bool
  have h_is_within := ok_is_within (P := P) (w := w) (base := base) do_is_within h_is_integer
  have h_is_sequence := ok_is_sequence (P := P) (w := w) (base := base) do_is_sequence m_tuple m_list m_isinstance kI
  have h_is_row := ok_is_row (P := P) (w := w) (base := base) do_is_row h_is_sequence m_len
  have h_is_word_of := ok_is_word_of (P := P) (w := w) (base := base) do_is_word_of m_str m_isinstance kI
  have h_frozen := okr_frozen (P := P) (w := w) (base := base) do_frozen h_is_sequence m_tuple 5
  have n_Printer := ok_Printer_init (P := P) (w := w) (base := base) c_Printer mk_Printer F_Printer_init m_enumerate m_bool m_isinstance kI e_BadValue ff_Printer
  have mt_Printer_eq := ok_Printer_eq (P := P) (w := w) (base := base) me_Printer___eq F_Printer_eq c_Printer m_isinstance kI ff_Printer pp_counts pp_remembers pp_tells
  have h_is_line := ok_is_line (P := P) (w := w) (base := base) do_is_line h_is_row m_str m_isinstance kI m_len g_ALONE h_is_within h_is_word_of g_ASKED
  have n_Plan := ok_Plan_init (P := P) (w := w) (base := base) c_Plan mk_Plan F_Plan_init h_is_row g_MOST_LINES e_BadValue m_enumerate h_is_line m_len e_BadLine h_frozen ff_Plan
  have mt_Plan_len := ok_Plan_len (P := P) (w := w) (base := base) me_Plan___len F_Plan_len ff_Plan m_len
  have mt_Plan_eq := ok_Plan_eq (P := P) (w := w) (base := base) me_Plan___eq F_Plan_eq c_Plan m_isinstance kI ff_Plan pp_lines
  have h__law_numbers := ok_law_numbers (P := P) (w := w) (base := base) do__law_numbers m_range m_int m_len
  have h__law_draw := ok_law_draw (P := P) (w := w) (base := base) do__law_draw m_len m_int
  have h__law_take := ok_law_take (P := P) (w := w) (base := base) do__law_take h__law_draw
  have h__law_set := ok_law_set (P := P) (w := w) (base := base) do__law_set m_list m_tuple
  have h__law_printer := ok_law_printer (P := P) (w := w) (base := base) do__law_printer h__law_take
  have h__law_so := okr_law_so (P := P) (w := w) (base := base) do__law_so m_tuple m_isinstance kI m_len m_range m_bool m_int m_str 6
  have h__law_loose := okr_law_loose (P := P) (w := w) (base := base) do__law_loose m_tuple m_isinstance kI m_int 6
  have h__law_shift := ok_law_shift (P := P) (w := w) (base := base) do__law_shift
  have h__law_line := ok_law_line (P := P) (w := w) (base := base) do__law_line h__law_take
  have h__law_plan := ok_law_plan (P := P) (w := w) (base := base) do__law_plan h__law_take m_range h__law_line m_tuple m_list m_len h__law_shift
  have h__law_case := ok_law_case (P := P) (w := w) (base := base) do__law_case h__law_printer h__law_plan
  have h__law_machine := ok_law_machine (P := P) (w := w) (base := base) do__law_machine n_Printer
  have h__law_plan_fault := ok_law_plan_fault (P := P) (w := w) (base := base) do__law_plan_fault n_Plan eE c_BadLine x_BadLine c_BadValue x_BadValue
  have h__law_printer_fault := ok_law_printer_fault (P := P) (w := w) (base := base) do__law_printer_fault n_Printer eE c_BadValue x_BadValue
  exact fnOk_of Fl sc_law rfl (sb_law m_list n_Plan h__law_so pp_lines mt_Plan_len m_len h__law_loose mt_Plan_eq nf_Plan kI h__law_take h__law_set h__law_machine pp_tells pp_remembers pp_counts n_Printer mt_Printer_eq nf_Printer m_range h__law_printer_fault h__law_plan_fault m_tuple h__law_case h__law_numbers) eq_law
end HeadT
open PySem PySem.W PySem.Calls PyProof.Rows
theorem PySem.Challenge.cw_pagesonce_k01_printers_and_plans_as_give_holds : PySem.Challenge.rw_pagesonce_k01_printers_and_plans_as_give.Holds := by
  w_on; o_law
  refine HandSHeadRun.head_any (r := OpenLaw.row PySem.Challenge.rw_pagesonce_k01_printers_and_plans_as_give) (q := view (OpenLaw.row PySem.Challenge.rw_pagesonce_k01_printers_and_plans_as_give).prog [33]) (H := HeadT.hk) (ob := HeadT.ob) (M := HeadT.MM) (loose := HeadT.names) (d := HandSHeadRun.topDef (OpenLaw.row PySem.Challenge.rw_pagesonce_k01_printers_and_plans_as_give).prog 33) (kwd := []) HeadT.ob_eq
    (by kernel_rfl) (fun s => by kernel_rfl) HeadT.run (by kernel_rfl) (by kernel_rfl) (by kernel_rfl) (by rfl) (by first | assumption | decide +kernel) (by decide +kernel) ⟨rfl, rfl, rfl, rfl, rfl, by decide +kernel⟩ ?hw ?hc
  case hw => w_witness2
  case hc =>
    refine DL.walk_ofD (l := PySem.Challenge.rw_pagesonce_k01_printers_and_plans_as_give) (n := 63) (k := 11) (x := "script") (CX := fun w => L2N.CX (PySem.Challenge.rw_pagesonce_k01_printers_and_plans_as_give).prog w) rfl (by decide) (by kernel_rfl) ⟨rfl, by decide, by decide⟩ ?F (fun w H s e s' => DL.cx_no)
    intro w mg fa h Y G hmg0
    obtain ⟨K, KX, c⟩ := Y
    have hmg : mg ("law" : PySem.Str) = some (.ref fa) := by
      have e : (HandSHeadRun.topDef (OpenLaw.row PySem.Challenge.rw_pagesonce_k01_printers_and_plans_as_give).prog 33).name = ("law" : PySem.Str) := by kernel_rfl
      rw [← e]
      exact hmg0
    obtain ⟨fd, hb, hF⟩ := HeadT.facts (P := (PySem.Challenge.rw_pagesonce_k01_printers_and_plans_as_give).prog) (w := w) KX G hmg c
    exact ⟨K, fd, DL.SpP K 1 DL.F_law, KX, hb, fun H a ns hl _ hS => DL.sp_law_of hS (DL.F_law_ok hl), hF⟩
