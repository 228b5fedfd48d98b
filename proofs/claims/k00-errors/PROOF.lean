import PyProof.Rows.All
import Wide.All
import OpenK.AllK
import Wide.FinOn
import KE.KStateDown
import HandS.ForMost
import HandS.Exc
import HandS.ExcOwn
import HandS.TryOnly
import HandS.TryMany
import HandS.WordsExc
import HandS.Defaults
import HandS.IsInst
import HandS.HeadHook1
import HandS.ExcCtx
import HandS.HotCalls
import HandS.TupAny
import HandS.TupMul
import HandS.Wide
import HandS.Deep
import KE.KExcInit
import HandS.ExcIs
import HandS.HeadHook2
import HandS.HeadEnd
import HandS.Ends
import HandS.Head0
import HandS.Head1
import HandS.Head2
import HandS.HeadHook3
import HandS.HeadHook4
import PySem.Challenge.RW_pagesonce_k00_errors
set_option Elab.async false
set_option linter.all false
set_option maxRecDepth 100000
set_option maxHeartbeats 4000000
namespace DL
open PySem PySem.Spec PyProof.Rows L2
/-! ## Data -/
inductive D where
  | non | bl (b : Bool) | int (i : Int) | str (x : Str)
  | tup (ds : List D) | lst (ds : List D)
  | obj (c : Str) (fs : List (Str × D))
  | dct (kvs : List (D × D))
  | scr (ns : List Int)
  | ty (n : String) | cls (c : Str)
  | exn (a dd : Addr) (c : Str) (x : D)
inductive Va where
  | d (x : D) | l (n : Nat)
inductive Ce where
  | lst (ds : List D) | dct (kvs : List (D × D)) | obj (c : Str) (fs : List (Str × Va))
abbrev Env := List (Option Va)
abbrev Mu := List (Option Ce)
inductive R (a : Type) where
  | ok (x : a) (m : Mu) | exc (c : Str) (d : D) (m : Mu) | stuck
inductive RS where
  | nx (e : Env) (m : Mu) | ret (x : Va) (e : Env) (m : Mu) | brk (e : Env) (m : Mu) | cnt (e : Env) (m : Mu) | exc (c : Str) (d : D) (e : Env) (m : Mu) | stuck
inductive R0 where
  | ok (d : D) | exc (c : Str) (d : D) | stuck
def R.bind {a b : Type} (x : R a) (f : a → Mu → R b) : R b := match x with
  | .ok y m => f y m
  | .exc c d m => .exc c d m
  | .stuck => .stuck
def R.toS {a : Type} (x : R a) (e : Env) (f : a → Mu → RS) : RS := match x with
  | .ok y m => f y m
  | .exc c d m => .exc c d e m
  | .stuck => .stuck
def RS.thn (r : RS) (v : Env → Mu → RS) : RS := match r with
  | .nx e m => v e m
  | r => r
def RS.loop (r : RS) (v : Env → Mu → RS) : RS := match r with
  | .nx e m => v e m
  | .cnt e m => v e m
  | .brk e m => .nx e m
  | r => r
/-- of a store: that it goes on -/
def RS.stored (r : RS) (v : Env → Mu → RS) : RS := match r with
  | .nx e m => v e m
  | _ => .stuck
section
variable {a b : Type} {x : a} {m : Mu} {c : Str} {d : D} {e : Env} {v : Va} {f : a → Mu → R b} {g : a → Mu → RS} {h : Env → Mu → RS}
@[simp] theorem R.bind_ok : (R.ok x m).bind f = f x m := rfl
@[simp] theorem R.bind_exc : (R.exc c d m : R a).bind f = .exc c d m := rfl
@[simp] theorem R.bind_stuck : (R.stuck : R a).bind f = .stuck := rfl
@[simp] theorem R.toS_ok : (R.ok x m).toS e g = g x m := rfl
@[simp] theorem R.toS_exc : (R.exc c d m : R a).toS e g = .exc c d e m := rfl
@[simp] theorem R.toS_stuck : (R.stuck : R a).toS e g = .stuck := rfl
@[simp] theorem RS.thn_nx : (RS.nx e m).thn h = h e m := rfl
@[simp] theorem RS.thn_ret : (RS.ret v e m).thn h = .ret v e m := rfl
@[simp] theorem RS.thn_brk : (RS.brk e m).thn h = .brk e m := rfl
@[simp] theorem RS.thn_cnt : (RS.cnt e m).thn h = .cnt e m := rfl
@[simp] theorem RS.thn_exc : (RS.exc c d e m).thn h = .exc c d e m := rfl
@[simp] theorem RS.thn_stuck : RS.stuck.thn h = .stuck := rfl
@[simp] theorem RS.loop_nx : (RS.nx e m).loop h = h e m := rfl
@[simp] theorem RS.loop_ret : (RS.ret v e m).loop h = .ret v e m := rfl
@[simp] theorem RS.loop_brk : (RS.brk e m).loop h = .nx e m := rfl
@[simp] theorem RS.loop_cnt : (RS.cnt e m).loop h = h e m := rfl
@[simp] theorem RS.loop_exc : (RS.exc c d e m).loop h = .exc c d e m := rfl
@[simp] theorem RS.loop_stuck : RS.stuck.loop h = .stuck := rfl
@[simp] theorem RS.stored_nx : (RS.nx e m).stored h = h e m := rfl
end
abbrev cA (K : PySem.W.Frag) (c : Str) : Addr := He.ga K c
section
variable (K : PySem.W.Frag) (H : Hp)
/-- the entries of a dict (keys texts or ints) -/
def DctO (o : HO) (ws : List (V × V)) : Prop := ∃ kvs, o = .dK kvs ∧ ws = kvs.map fun p => (kV p.1, p.2)
mutual
def Rep : D → V → Prop
  | .non, v => v = .non
  | .bl b, v => v = .bl b
  | .int i, v => v = .int i
  | .str x, v => v = .str x
  | .tup ds, v => ∃ a vs, v = .ref a ∧ SqT K H a vs ∧ Reps ds vs
  | .lst ds, v => ∃ a vs, v = .ref a ∧ H a = some (.lst vs) ∧ Reps ds vs
  | .obj c fs, v => ∃ a dx vs, v = .ref a ∧ H a = some (.ins (cA K c) dx vs) ∧ RepF fs vs
  | .dct kvs, v => ∃ a o ws, v = .ref a ∧ H a = some o ∧ DctO o ws ∧ RepP kvs ws
  | .scr ns, v => ∃ a, v = .ref a ∧ SqL K H a (ns.map V.int)
  | .ty n, v => v = .ty n
  | .cls c, v => v = .ref (cA K c)
  | .exn a dd _ x, v => v = .ref a ∧ ∃ u, H dd = some (.xd [(("at" : Str), u)]) ∧ Rep x u
def Reps : List D → List V → Prop
  | [], vs => vs = []
  | d :: ds, vs => ∃ v r, vs = v :: r ∧ Rep d v ∧ Reps ds r
def RepF : List (Str × D) → List (Str × V) → Prop
  | [], vs => vs = []
  | (x, d) :: fs, vs => ∃ v r, vs = (x, v) :: r ∧ Rep d v ∧ RepF fs r
def RepP : List (D × D) → List (V × V) → Prop
  | [], vs => vs = []
  | (k, d) :: fs, vs => ∃ u v r, vs = (u, v) :: r ∧ Rep k u ∧ Rep d v ∧ RepP fs r
end
end
section
variable {K : PySem.W.Frag} {H H' : Hp}
theorem Same.seqT (e : Same H H') {a : Addr} {xs : List V} (h : SqT K H a xs) : SqT K H' a xs := by
  rcases h with (h | ⟨o, h⟩) | h
  · exact .inl (.inl (e _ _ h))
  · exact .inl (.inr ⟨o, e _ _ h⟩)
  · exact .inr h
mutual
theorem Rep.mono (e : Same H H') : ∀ {d : D} {v : V}, Rep K H d v → Rep K H' d v
  | .non, v, h => by simpa only [Rep] using h
  | .bl b, v, h => by simpa only [Rep] using h
  | .int i, v, h => by simpa only [Rep] using h
  | .str x, v, h => by simpa only [Rep] using h
  | .tup ds, v, h => by
    simp only [Rep] at h ⊢
    obtain ⟨a, vs, e1, e2, e3⟩ := h
    exact ⟨a, vs, e1, Same.seqT e e2, Reps.mono e e3⟩
  | .lst ds, v, h => by
    simp only [Rep] at h ⊢
    obtain ⟨a, vs, e1, e2, e3⟩ := h
    exact ⟨a, vs, e1, e _ _ e2, Reps.mono e e3⟩
  | .obj c fs, v, h => by
    simp only [Rep] at h ⊢
    obtain ⟨a, dx, vs, e1, e2, e3⟩ := h
    exact ⟨a, dx, vs, e1, e _ _ e2, RepF.mono e e3⟩
  | .dct kvs, v, h => by
    simp only [Rep] at h ⊢
    obtain ⟨a, o, ws, e1, e2, e3, e4⟩ := h
    exact ⟨a, o, ws, e1, e _ _ e2, e3, RepP.mono e e4⟩
  | .scr ns, v, h => by
    simp only [Rep] at h ⊢
    obtain ⟨a, e1, e2⟩ := h
    exact ⟨a, e1, Same.seq e e2⟩
  | .ty n, v, h => by simpa only [Rep] using h
  | .cls n, v, h => by simpa only [Rep] using h
  | .exn a dd c x, v, h => by
    simp only [Rep] at h ⊢
    obtain ⟨e1, u, e2, e3⟩ := h
    exact ⟨e1, u, e _ _ e2, Rep.mono e e3⟩
theorem Reps.mono (e : Same H H') : ∀ {ds : List D} {vs : List V}, Reps K H ds vs → Reps K H' ds vs
  | [], vs, h => by simpa only [Reps] using h
  | d :: ds, vs, h => by
    simp only [Reps] at h ⊢
    obtain ⟨v, r, e1, e2, e3⟩ := h
    exact ⟨v, r, e1, Rep.mono e e2, Reps.mono e e3⟩
theorem RepF.mono (e : Same H H') : ∀ {ds : List (Str × D)} {vs : List (Str × V)}, RepF K H ds vs → RepF K H' ds vs
  | [], vs, h => by simpa only [RepF] using h
  | (x, d) :: ds, vs, h => by
    simp only [RepF] at h ⊢
    obtain ⟨v, r, e1, e2, e3⟩ := h
    exact ⟨v, r, e1, Rep.mono e e2, RepF.mono e e3⟩
theorem RepP.mono (e : Same H H') : ∀ {ds : List (D × D)} {vs : List (V × V)}, RepP K H ds vs → RepP K H' ds vs
  | [], vs, h => by simpa only [RepP] using h
  | (x, d) :: ds, vs, h => by
    simp only [RepP] at h ⊢
    obtain ⟨u, v, r, e1, e2, e3, e4⟩ := h
    exact ⟨u, v, r, e1, Rep.mono e e2, Rep.mono e e3, RepP.mono e e4⟩
end
theorem reps_nil {vs : List V} : Reps K H [] vs ↔ vs = [] := by simp only [Reps]
theorem reps_cons {d : D} {ds : List D} {v : V} {vs : List V} : Reps K H (d :: ds) (v :: vs) ↔ Rep K H d v ∧ Reps K H ds vs := by
  simp only [Reps]
  constructor
  · rintro ⟨v', r, e, h1, h2⟩
    cases e
    exact ⟨h1, h2⟩
  · rintro ⟨h1, h2⟩
    exact ⟨v, vs, rfl, h1, h2⟩
theorem Reps.length : ∀ {ds : List D} {vs : List V}, Reps K H ds vs → vs.length = ds.length
  | [], vs, h => by rw [reps_nil] at h; rw [h]; rfl
  | d :: ds, vs, h => by
    simp only [Reps] at h
    obtain ⟨v, r, e1, _, e3⟩ := h
    rw [e1, List.length_cons, List.length_cons, Reps.length e3]
theorem Reps.get : ∀ {ds : List D} {vs : List V} {i : Nat} {d : D}, Reps K H ds vs → ds[i]? = some d → ∃ v, vs[i]? = some v ∧ Rep K H d v
  | [], vs, i, d, h, e => by simp at e
  | d :: ds, vs, 0, d', h, e => by
    simp only [Reps] at h
    obtain ⟨v, r, e1, e2, e3⟩ := h
    simp at e
    subst e e1
    exact ⟨v, rfl, e2⟩
  | d :: ds, vs, i + 1, d', h, e => by
    simp only [Reps] at h
    obtain ⟨v, r, e1, e2, e3⟩ := h
    subst e1
    obtain ⟨v', h1, h2⟩ := Reps.get (i := i) e3 (by simpa using e)
    exact ⟨v', by simpa using h1, h2⟩
theorem Reps.get' {ds : List D} {vs : List V} {i : Nat} {v : V} (h : Reps K H ds vs) (e : vs[i]? = some v) : ∃ d, ds[i]? = some d ∧ Rep K H d v := by
  have hl := h.length
  have hi : i < ds.length := by rw [← hl]; exact (List.getElem?_eq_some_iff.mp e).1
  obtain ⟨v', e1, e2⟩ := h.get (d := ds[i]) (List.getElem?_eq_getElem hi)
  rw [e] at e1
  cases e1
  exact ⟨_, List.getElem?_eq_getElem hi, e2⟩
theorem Reps.append : ∀ {ds es : List D} {vs us : List V}, Reps K H ds vs → Reps K H es us → Reps K H (ds ++ es) (vs ++ us)
  | [], es, vs, us, h, h' => by rw [reps_nil] at h; subst h; exact h'
  | d :: ds, es, vs, us, h, h' => by
    simp only [Reps] at h
    obtain ⟨v, r, e1, e2, e3⟩ := h
    subst e1
    exact reps_cons.mpr ⟨e2, Reps.append e3 h'⟩
theorem Reps.one {d : D} {v : V} (h : Rep K H d v) : Reps K H [d] [v] := reps_cons.mpr ⟨h, reps_nil.mpr rfl⟩
theorem Reps.take : ∀ {ds : List D} {vs : List V} (n : Nat), Reps K H ds vs → Reps K H (ds.take n) (vs.take n)
  | ds, vs, 0, h => by
    rw [List.take_zero, List.take_zero]
    exact reps_nil.mpr rfl
  | [], vs, n + 1, h => by
    rw [reps_nil] at h
    subst h
    first | exact reps_nil.mpr rfl | (simp [reps_nil])
  | d :: ds, vs, n + 1, h => by
    simp only [Reps] at h
    obtain ⟨v, r, e1, e2, e3⟩ := h
    subst e1
    exact reps_cons.mpr ⟨e2, Reps.take n e3⟩
theorem Reps.drop : ∀ {ds : List D} {vs : List V} (n : Nat), Reps K H ds vs → Reps K H (ds.drop n) (vs.drop n)
  | ds, vs, 0, h => h
  | [], vs, n + 1, h => by
    rw [reps_nil] at h
    subst h
    first | exact reps_nil.mpr rfl | (simp [reps_nil])
  | d :: ds, vs, n + 1, h => by
    simp only [Reps] at h
    obtain ⟨v, r, e1, e2, e3⟩ := h
    subst e1
    exact Reps.drop n e3
theorem Reps.reverse : ∀ {ds : List D} {vs : List V}, Reps K H ds vs → Reps K H ds.reverse vs.reverse
  | [], vs, h => by
    rw [reps_nil] at h
    subst h
    first | exact reps_nil.mpr rfl | (simp [reps_nil])
  | d :: ds, vs, h => by
    simp only [Reps] at h
    obtain ⟨v, r, e1, e2, e3⟩ := h
    subst e1
    rw [List.reverse_cons, List.reverse_cons]
    exact Reps.append (Reps.reverse e3) (Reps.one e2)
theorem Reps.set : ∀ {ds : List D} {vs : List V} {d : D} {v : V} (i : Nat), Reps K H ds vs → Rep K H d v → Reps K H (ds.set i d) (vs.set i v)
  | [], vs, d', v', i, h, h' => by
    rw [reps_nil] at h
    subst h
    first | exact reps_nil.mpr rfl | (simp [reps_nil])
  | d :: ds, vs, d', v', 0, h, h' => by
    simp only [Reps] at h
    obtain ⟨v, r, e1, e2, e3⟩ := h
    subst e1
    exact reps_cons.mpr ⟨h', e3⟩
  | d :: ds, vs, d', v', i + 1, h, h' => by
    simp only [Reps] at h
    obtain ⟨v, r, e1, e2, e3⟩ := h
    subst e1
    exact reps_cons.mpr ⟨e2, Reps.set i e3 h'⟩
end
/-! ## State -/
section
variable (K : PySem.W.Frag)
def RepA (Hs : Hp) (rh : List Addr) : Va → V → Prop
  | .d x, v => Rep K Hs x v
  | .l n, v => ∃ a, rh[n]? = some a ∧ v = .ref a
def RepAs (Hs : Hp) (rh : List Addr) : List Va → List V → Prop
  | [], vs => vs = []
  | d :: ds, vs => ∃ v r, vs = v :: r ∧ RepA K Hs rh d v ∧ RepAs Hs rh ds r
def RepAF (Hs : Hp) (rh : List Addr) : List (Str × Va) → List (Str × V) → Prop
  | [], vs => vs = []
  | (x, d) :: fs, vs => ∃ v r, vs = (x, v) :: r ∧ RepA K Hs rh d v ∧ RepAF Hs rh fs r
def RepO (Hs : Hp) (rh : List Addr) : Ce → HO → Prop
  | .lst ds, o => ∃ vs, o = .lst vs ∧ Reps K Hs ds vs
  | .dct kvs, o => ∃ ws, DctO o ws ∧ RepP K Hs kvs ws
  | .obj c fs, o => ∃ dx vs, o = .ins (cA K c) dx vs ∧ RepAF K Hs rh fs vs
structure SC (Hs H : Hp) (rh : List Addr) (mu : Mu) : Prop where
  same : Same Hs H
  mlen : mu.length = rh.length
  cell : ∀ (n : Nat) (c : Ce), mu[n]? = some (some c) → ∃ a o, rh[n]? = some a ∧ Hs a = none ∧ H a = some o ∧ RepO K Hs rh c o
  nd : rh.Nodup
  old : ∀ a ∈ rh, H a ≠ none
structure SR (Hs H : Hp) (rh : List Addr) (sg : L2.St) (et : Env) (mu : Mu) : Prop where
  sc : SC K Hs H rh mu
  len : sg.length = et.length
  val : ∀ (i : Nat) (d : Va), et[i]? = some (some d) → ∃ v, sg[i]? = some (some v) ∧ RepA K Hs rh d v
end
/-- an error's own dict, new since H, held by nobody -/
structure XdAt (H Hs' H' : Hp) (rh' : List Addr) (dx : Addr) (v : V) : Prop where
  new : H dx = none
  fro : Hs' dx = none
  cel : dx ∉ rh'
  at_ : H' dx = some (.xd [(("at" : Str), v)])
structure Ext (Hs H : Hp) (rh : List Addr) (Hs' H' : Hp) (rh' : List Addr) : Prop where
  sub : Same Hs Hs'
  pre : rh <+: rh'
  keep : ∀ b o, H b = some o → b ∉ rh → H' b = some o
  there : ∀ b, H b ≠ none → H' b ≠ none
  new : ∀ b ∈ rh', b ∈ rh ∨ H b = none
  froz : ∀ b, Hs' b ≠ none → Hs b ≠ none ∨ H b = none ∨ b ∈ rh
section
variable {K : PySem.W.Frag} {Hs H Hs1 H1 Hs2 H2 : Hp} {rh rh1 rh2 : List Addr} {sg : L2.St} {et : Env} {mu mu1 : Mu}
theorem Ext.refl : Ext Hs H rh Hs H rh := ⟨.refl _, List.prefix_refl _, fun _ _ h _ => h, fun _ h => h, fun _ h => .inl h, fun _ h => .inl h⟩
theorem Ext.trans (a : Ext Hs H rh Hs1 H1 rh1) (b : Ext Hs1 H1 rh1 Hs2 H2 rh2) : Ext Hs H rh Hs2 H2 rh2 where
  sub := a.sub.trans b.sub
  pre := a.pre.trans b.pre
  keep := fun c o h n => b.keep c o (a.keep c o h n) fun z => (a.new c z).elim n fun q => by rw [q] at h; cases h
  there := fun c h => b.there c (a.there c h)
  new := fun c h => (b.new c h).elim (fun z => a.new c z) fun q => .inr (Classical.byContradiction fun z => a.there c z q)
  froz := fun c h => by
    rcases b.froz c h with z | z | z
    · exact a.froz c z
    · exact .inr (.inl (Classical.byContradiction fun q => a.there c q z))
    · exact (a.new c z).elim (fun q => .inr (.inr q)) fun q => .inr (.inl q)
theorem XdAt.base {Hs' H' : Hp} {rh' : List Addr} {dx : Addr} {v : V} (q : XdAt H1 Hs' H' rh' dx v) (x : Ext Hs H rh Hs1 H1 rh1) : XdAt H Hs' H' rh' dx v :=
  ⟨Classical.byContradiction fun z => x.there dx z q.new, q.fro, q.cel, q.at_⟩
theorem RepA.mono (s : Same Hs Hs1) (p : rh <+: rh1) {d : Va} {v : V} (h : RepA K Hs rh d v) : RepA K Hs1 rh1 d v := by
  cases d with
  | d x => exact Rep.mono s h
  | l n =>
    obtain ⟨a, e, r⟩ := h
    obtain ⟨t, q⟩ := p
    refine ⟨a, ?_, r⟩
    rw [← q, List.getElem?_append_left (List.getElem?_eq_some_iff.mp e).1]
    exact e
theorem RepA.ext (x : Ext Hs H rh Hs1 H1 rh1) {d : Va} {v : V} (h : RepA K Hs rh d v) : RepA K Hs1 rh1 d v := h.mono x.sub x.pre
theorem RepAs.mono (s : Same Hs Hs1) (p : rh <+: rh1) : ∀ {ds : List Va} {vs : List V}, RepAs K Hs rh ds vs → RepAs K Hs1 rh1 ds vs
  | [], _, h => h
  | _ :: _, _, ⟨v, r, e, h1, h2⟩ => ⟨v, r, e, h1.mono s p, RepAs.mono s p h2⟩
theorem RepAF.mono (s : Same Hs Hs1) (p : rh <+: rh1) : ∀ {ds : List (Str × Va)} {vs : List (Str × V)}, RepAF K Hs rh ds vs → RepAF K Hs1 rh1 ds vs
  | [], _, h => h
  | (_, _) :: _, _, ⟨v, r, e, h1, h2⟩ => ⟨v, r, e, h1.mono s p, RepAF.mono s p h2⟩
theorem RepO.mono (s : Same Hs Hs1) (p : rh <+: rh1) : ∀ {c : Ce} {o : HO}, RepO K Hs rh c o → RepO K Hs1 rh1 c o
  | .lst _, _, ⟨vs, e, h⟩ => ⟨vs, e, Reps.mono s h⟩
  | .dct _, _, ⟨ws, e, h⟩ => ⟨ws, e, RepP.mono s h⟩
  | .obj _ _, _, ⟨dx, vs, e, h⟩ => ⟨dx, vs, e, RepAF.mono s p h⟩
theorem SR.set (s : SR K Hs H rh sg et mu) {i : Nat} {d : Va} {v : V} (h : RepA K Hs rh d v) : SR K Hs H rh (sg.set i (some v)) (et.set i (some d)) mu := by
  refine ⟨s.sc, by rw [List.length_set, List.length_set, s.len], fun j e he => ?_⟩
  by_cases hj : i = j
  · subst hj
    have hi : i < et.length := by
      have q := (List.getElem?_eq_some_iff.mp he).1
      rwa [List.length_set] at q
    rw [List.getElem?_set_self hi] at he
    cases he
    exact ⟨v, List.getElem?_set_self (by rw [s.len]; exact hi), h⟩
  · rw [List.getElem?_set_ne hj] at he
    rw [List.getElem?_set_ne hj]
    exact s.val j e he
theorem SR.wipe (s : SR K Hs H rh sg et mu) {i : Nat} : SR K Hs H rh (sg.set i none) (et.set i none) mu := by
  refine ⟨s.sc, by rw [List.length_set, List.length_set, s.len], fun j e he => ?_⟩
  by_cases hj : i = j
  · subst hj
    have hi : i < et.length := by
      have q := (List.getElem?_eq_some_iff.mp he).1
      rwa [List.length_set] at q
    rw [List.getElem?_set_self hi] at he
    cases he
  · rw [List.getElem?_set_ne hj] at he
    rw [List.getElem?_set_ne hj]
    exact s.val j e he
/-- a new frozen object -/
theorem SC.laid (s : SC K Hs H rh mu) {p : Addr} {o : HO} (hp : H p = none) : SC K (upd Hs p o) (upd H p o) rh mu ∧ Ext Hs H rh (upd Hs p o) (upd H p o) rh ∧ Same Hs (upd Hs p o) := by
  have hsp : Hs p = none := s.same.free hp
  have sm : Same Hs (upd Hs p o) := fun b u e => by rw [upd_ne (ne_of_none e hsp)]; exact e
  refine ⟨⟨fun b u e => ?_, s.mlen, fun n c e => ?_, s.nd, fun a ha => ?_⟩, ⟨sm, List.prefix_refl _, fun b u e _ => by rw [upd_ne (ne_of_none e hp)]; exact e, fun b hb => ?_, fun b hb => .inl hb, fun b hb => ?_⟩, sm⟩
  · by_cases hb : b = p
    · subst hb
      rw [upd_same] at e ⊢
      exact e
    · rw [upd_ne hb] at e ⊢
      exact s.same b u e
  · obtain ⟨a, u, e1, e2, e3, e4⟩ := s.cell n c e
    have ne : a ≠ p := ne_of_none e3 hp
    exact ⟨a, u, e1, by rw [upd_ne ne]; exact e2, by rw [upd_ne ne]; exact e3, e4.mono sm (List.prefix_refl _)⟩
  · by_cases hb : a = p
    · rw [hb, upd_same]
      exact fun z => nomatch z
    · rw [upd_ne hb]
      exact s.old a ha
  · by_cases hq : b = p
    · rw [hq, upd_same]
      exact fun z => nomatch z
    · rw [upd_ne hq]
      exact hb
  · by_cases hq : b = p
    · exact .inr (.inl (by rw [hq]; exact hp))
    · rw [upd_ne hq] at hb
      exact .inl hb
theorem SR.ext (s : SR K Hs H rh sg et mu) (x : Ext Hs H rh Hs1 H1 rh1) (c : SC K Hs1 H1 rh1 mu1) : SR K Hs1 H1 rh1 sg et mu1 :=
  ⟨c, s.len, fun i d e => let ⟨v, e1, e2⟩ := s.val i d e; ⟨v, e1, e2.ext x⟩⟩
/-- what a part that knows no cells has done -/
theorem SC.frame (s : SC K Hs H rh mu) (a : Same Hs Hs1) (b : Same Hs1 H1) (c : Same H H1) (f : ∀ b, Hs1 b ≠ none → Hs b ≠ none ∨ H b = none) : SC K Hs1 H1 rh mu ∧ Ext Hs H rh Hs1 H1 rh := by
  refine ⟨⟨b, s.mlen, fun n d e => ?_, s.nd, fun x hx z => ?_⟩, ⟨a, List.prefix_refl _, fun x o e _ => c x o e, fun x hx z => ?_, fun _ h => .inl h, fun x hx => (f x hx).elim .inl fun z => .inr (.inl z)⟩⟩
  · obtain ⟨x, u, e1, e2, e3, e4⟩ := s.cell n d e
    refine ⟨x, u, e1, ?_, c x u e3, e4.mono a (List.prefix_refl _)⟩
    cases q : Hs1 x with
    | none => rfl
    | some o =>
      rcases f x (by rw [q]; exact fun z => nomatch z) with z | z
      · exact absurd e2 z
      · rw [z] at e3
        cases e3
  · cases q : H x with
    | none => exact s.old x hx q
    | some o => rw [c x o q] at z; cases z
  · cases q : H x with
    | none => exact hx q
    | some o => rw [c x o q] at z; cases z
/-- a new cell -/
theorem SC.newCell (s : SC K Hs H rh mu) {p : Addr} {o : HO} {c : Ce} (hp : H p = none) (r : RepO K Hs rh c o) : SC K Hs (upd H p o) (rh ++ [p]) (mu ++ [some c]) ∧ Ext Hs H rh Hs (upd H p o) (rh ++ [p]) ∧ (rh ++ [p])[mu.length]? = some p := by
  have hsp : Hs p = none := s.same.free hp
  have hn : p ∉ rh := fun z => s.old p z hp
  have pf : rh <+: rh ++ [p] := List.prefix_append _ _
  refine ⟨⟨fun b u e => by rw [upd_ne (ne_of_none (s.same b u e) hp)]; exact s.same b u e, by rw [List.length_append, List.length_append, s.mlen]; rfl, fun n d e => ?_, ?_, fun a ha => ?_⟩, ⟨.refl _, pf, fun b u e _ => by rw [upd_ne (ne_of_none e hp)]; exact e, fun b hb => ?_, fun b hb => ?_, fun b hb => .inl hb⟩, by rw [s.mlen]; simp⟩
  · by_cases hn2 : n < mu.length
    · rw [List.getElem?_append_left hn2] at e
      obtain ⟨a, u, e1, e2, e3, e4⟩ := s.cell n d e
      exact ⟨a, u, by rw [List.getElem?_append_left (by rw [← s.mlen]; exact hn2)]; exact e1, e2, by rw [upd_ne (ne_of_none e3 hp)]; exact e3, e4.mono (.refl _) pf⟩
    · have hl : n = mu.length := by
        have q := (List.getElem?_eq_some_iff.mp e).1
        rw [List.length_append, List.length_singleton] at q
        omega
      subst hl
      rw [List.getElem?_concat_length] at e
      cases e
      exact ⟨p, o, by rw [s.mlen]; simp, hsp, upd_same, r.mono (.refl _) pf⟩
  · rw [List.nodup_append]
    exact ⟨s.nd, by simp, fun a ha b hb z => hn (by simp at hb; rw [← hb, ← z]; exact ha)⟩
  · by_cases hb : a = p
    · rw [hb, upd_same]
      exact fun z => nomatch z
    · rw [upd_ne hb]
      rcases List.mem_append.mp ha with z | z
      · exact s.old a z
      · exact absurd (by simpa using z) hb
  · by_cases hq : b = p
    · rw [hq, upd_same]
      exact fun z => nomatch z
    · rw [upd_ne hq]
      exact hb
  · rcases List.mem_append.mp hb with z | z
    · exact .inl z
    · have e : b = p := by simpa using z
      exact .inr (by rw [e]; exact hp)
/-- a cell is written -/
theorem SC.write (s : SC K Hs H rh mu) {n : Nat} {p : Addr} {o : HO} {c c0 : Ce} (hl : mu[n]? = some (some c0)) (hn : rh[n]? = some p) (r : RepO K Hs rh c o) : SC K Hs (upd H p o) rh (mu.set n (some c)) ∧ Ext Hs H rh Hs (upd H p o) rh := by
  obtain ⟨a0, o0, e1, e2, e3, e4⟩ := s.cell n c0 hl
  rw [hn] at e1
  cases e1
  have hm : p ∈ rh := List.mem_of_getElem? hn
  have nl : n < mu.length := (List.getElem?_eq_some_iff.mp hl).1
  refine ⟨⟨fun b u e => by rw [upd_ne (ne_of_none e e2)]; exact s.same b u e, by rw [List.length_set]; exact s.mlen, fun m d e => ?_, s.nd, fun a ha => ?_⟩, ⟨.refl _, List.prefix_refl _, fun b u e hb => by rw [upd_ne (fun z => hb (by rw [z]; exact hm))]; exact e, fun b hb => ?_, fun b hb => .inl hb, fun b hb => .inl hb⟩⟩
  · by_cases hmn : n = m
    · subst hmn
      rw [List.getElem?_set_self nl] at e
      cases e
      exact ⟨p, o, hn, e2, upd_same, r⟩
    · rw [List.getElem?_set_ne hmn] at e
      obtain ⟨a, u, e1, e5, e6, e7⟩ := s.cell m d e
      have ne : a ≠ p := fun z => hmn (by
        subst z
        obtain ⟨h1, q1⟩ := List.getElem?_eq_some_iff.mp hn
        obtain ⟨h2, q2⟩ := List.getElem?_eq_some_iff.mp e1
        exact (List.getElem_inj s.nd).mp (q1.trans q2.symm))
      exact ⟨a, u, e1, e5, by rw [upd_ne ne]; exact e6, e7⟩
  · by_cases hb : a = p
    · rw [hb, upd_same]
      exact fun z => nomatch z
    · rw [upd_ne hb]
      exact s.old a ha
  · by_cases hq : b = p
    · rw [hq, upd_same]
      exact fun z => nomatch z
    · rw [upd_ne hq]
      exact hb
end
end DL
set_option maxHeartbeats 4000000
namespace DL
open PySem PySem.Spec PyProof.Rows L2
/-! ## Judgements -/
abbrev St2 := L2.St
section
variable (K : PySem.W.Frag) (W : WX)
def Post {a b : Type} (Rel : Hp → Hp → List Addr → a → b → Prop) (Hs H : Hp) (rh : List Addr) (sg : St2) (et : Env) (Q : b → Hp → Prop) : R a → Prop
  | .ok d m => ∀ v Hs' H' rh', Ext Hs H rh Hs' H' rh' → SR K Hs' H' rh' sg et m → Rel Hs' H' rh' d v → Q v H'
  | .exc c d m => ∀ dx v Hs' H' rh', Ext Hs H rh Hs' H' rh' → SR K Hs' H' rh' sg et m → XdAt H Hs' H' rh' dx v → Rep K Hs' d v → W (.ref (cA K c)) (some dx) sg H'
  | .stuck => False
def PostS (Hs H : Hp) (rh : List Addr) (Dn : Ends) : RS → Prop
  | .nx e m => ∀ sg' Hs' H' rh', Ext Hs H rh Hs' H' rh' → SR K Hs' H' rh' sg' e m → Dn.nx sg' H'
  | .brk e m => ∀ sg' Hs' H' rh', Ext Hs H rh Hs' H' rh' → SR K Hs' H' rh' sg' e m → Dn.bk sg' H'
  | .cnt e m => ∀ sg' Hs' H' rh', Ext Hs H rh Hs' H' rh' → SR K Hs' H' rh' sg' e m → Dn.ct sg' H'
  | .ret x e m => ∀ v sg' Hs' H' rh', Ext Hs H rh Hs' H' rh' → SR K Hs' H' rh' sg' e m → RepA K Hs' rh' x v → Dn.rt v H'
  | .exc c d e m => ∀ dx v sg' Hs' H' rh', Ext Hs H rh Hs' H' rh' → SR K Hs' H' rh' sg' e m → XdAt H Hs' H' rh' dx v → Rep K Hs' d v → W (.ref (cA K c)) (some dx) sg' H'
  | .stuck => False
abbrev RlA : Hp → Hp → List Addr → Va → V → Prop := fun Hs _ rh d v => RepA K Hs rh d v
abbrev RlAs : Hp → Hp → List Addr → List Va → List V → Prop := fun Hs _ rh d v => RepAs K Hs rh d v
abbrev RlB : Hp → Hp → List Addr → Bool → Bool → Prop := fun _ _ _ a b => a = b
/-- a fresh list, held by nobody -/
abbrev RlF (H : Hp) : Hp → Hp → List Addr → List D → V → Prop := fun Hs' H' rh' ds v => ∃ p vs, v = .ref p ∧ H p = none ∧ Hs' p = none ∧ p ∉ rh' ∧ H' p = some (.lst vs) ∧ Reps K Hs' ds vs
end
section
variable {K : PySem.W.Frag} {W : WX} {a b c e : Type} {Rel : Hp → Hp → List Addr → a → b → Prop} {Rel2 : Hp → Hp → List Addr → c → e → Prop} {Hs H Hs1 H1 : Hp} {rh rh1 : List Addr} {sg : St2} {et : Env} {Q : b → Hp → Prop} {Q2 : e → Hp → Prop} {Dn : Ends}
theorem Post.ext (x : Ext Hs H rh Hs1 H1 rh1) : ∀ {r : R a}, Post K W Rel Hs H rh sg et Q r → Post K W Rel Hs1 H1 rh1 sg et Q r
  | .ok d m, h => fun v Hs' H' rh' y s r => h v Hs' H' rh' (x.trans y) s r
  | .exc c d m, h => fun dx v Hs' H' rh' y s q r => h dx v Hs' H' rh' (x.trans y) s (q.base x) r
  | .stuck, h => h.elim
theorem PostS.ext (x : Ext Hs H rh Hs1 H1 rh1) : ∀ {r : RS}, PostS K W Hs H rh Dn r → PostS K W Hs1 H1 rh1 Dn r
  | .nx _ _, h => fun sg' Hs' H' rh' y s => h sg' Hs' H' rh' (x.trans y) s
  | .brk _ _, h => fun sg' Hs' H' rh' y s => h sg' Hs' H' rh' (x.trans y) s
  | .cnt _ _, h => fun sg' Hs' H' rh' y s => h sg' Hs' H' rh' (x.trans y) s
  | .ret _ _ _, h => fun v sg' Hs' H' rh' y s r => h v sg' Hs' H' rh' (x.trans y) s r
  | .exc _ _ _ _, h => fun dx v sg' Hs' H' rh' y s q r => h dx v sg' Hs' H' rh' (x.trans y) s (q.base x) r
  | .stuck, h => h.elim
theorem Post.step {f : R a} {g : a → Mu → R c} (h : Post K W Rel2 Hs H rh sg et Q2 (f.bind g))
    (k : ∀ d m v Hs1 H1 rh1, Ext Hs H rh Hs1 H1 rh1 → SR K Hs1 H1 rh1 sg et m → Rel Hs1 H1 rh1 d v → Post K W Rel2 Hs1 H1 rh1 sg et Q2 (g d m) → Q v H1) : Post K W Rel Hs H rh sg et Q f := by
  cases f with
  | ok d m => exact fun v Hs' H' rh' y s r => k d m v Hs' H' rh' y s r (Post.ext y h)
  | exc c d m => exact h
  | stuck => exact h
theorem Post.stepS {f : R a} {g : a → Mu → R c} (h : Post K W Rel2 Hs H rh sg et Q2 (f.bind g))
    (k : ∀ d m v Hs1 H1 rh1, Ext Hs H rh Hs1 H1 rh1 → SR K Hs1 H1 rh1 sg et m → Rel Hs1 H1 rh1 d v → Post K W Rel2 Hs H rh sg et Q2 (g d m) → Q v H1) : Post K W Rel Hs H rh sg et Q f := by
  cases f with
  | ok d m => exact fun v Hs' H' rh' y s r => k d m v Hs' H' rh' y s r h
  | exc c d m => exact h
  | stuck => exact h
theorem Post.toS {f : R Va} {g : Va → Mu → RS} {Q : V → Hp → Prop} (s0 : SR K Hs H rh sg et mu0) (h : PostS K W Hs H rh Dn (f.toS et g))
    (k : ∀ d m v Hs1 H1 rh1, Ext Hs H rh Hs1 H1 rh1 → SR K Hs1 H1 rh1 sg et m → RepA K Hs1 rh1 d v → PostS K W Hs1 H1 rh1 Dn (g d m) → Q v H1) : Post K W (RlA K) Hs H rh sg et Q f := by
  cases f with
  | ok d m => exact fun v Hs' H' rh' y s r => k d m v Hs' H' rh' y s r (PostS.ext y h)
  | exc c d m => exact fun dx v Hs' H' rh' y s q r => h dx v sg Hs' H' rh' y s q r
  | stuck => exact h
theorem Post.ok_ {d : a} {m : Mu} {v : b} (h : Post K W Rel Hs H rh sg et Q (.ok d m)) (x : Ext Hs H rh Hs1 H1 rh1) (s : SR K Hs1 H1 rh1 sg et m) (r : Rel Hs1 H1 rh1 d v) : Q v H1 := h v Hs1 H1 rh1 x s r
end
/-- what is wanted behind a target's store -/
def PostG (K : PySem.W.Frag) (Hs H : Hp) (rh : List Addr) (Q : St2 → Hp → Prop) : RS → Prop
  | .nx e m => ∀ sg' Hs' H' rh', Ext Hs H rh Hs' H' rh' → SR K Hs' H' rh' sg' e m → Q sg' H'
  | _ => False
section
variable (X : Cx) (W : WX)
def SE (e : Expr) (f : Env → Mu → R Va) : Prop := ∃ t, PE X e t ∧ ∀ Hs H rh sg et m Q, SR X.K Hs H rh sg et m → Post X.K W (RlA X.K) Hs H rh sg et Q (f et m) → t sg H Q
def SF (e : Expr) (f : Env → Mu → R (List D)) : Prop := ∃ t, PE X e t ∧ ∀ Hs H rh sg et m Q, SR X.K Hs H rh sg et m → Post X.K W (RlF X.K H) Hs H rh sg et Q (f et m) → t sg H Q
def SA (es : List Expr) (f : Env → Mu → R (List Va)) : Prop := ∃ t, PA X es t ∧ ∀ Hs H rh sg et m Q, SR X.K Hs H rh sg et m → Post X.K W (RlAs X.K) Hs H rh sg et Q (f et m) → t sg H Q
def ST (e : Expr) (f : Env → Mu → R Bool) : Prop := ∃ t, PT X e t ∧ ∀ Hs H rh sg et m Q, SR X.K Hs H rh sg et m → Post X.K W RlB Hs H rh sg et Q (f et m) → t sg H Q
def SWt (e : Expr) (f : Env → Mu → R Bool) : Prop := ∃ t, PW X e t ∧ ∀ Hs H rh sg et m Q, SR X.K Hs H rh sg et m → Post X.K W RlB Hs H rh sg et Q (f et m) → t sg H Q
def SS (st : Stmt) (f : Env → Mu → RS) : Prop := ∃ t, PS X st t ∧ ∀ Hs H rh sg et m Dn, SR X.K Hs H rh sg et m → PostS X.K W Hs H rh Dn (f et m) → t Dn sg H
def SB (sts : List Stmt) (f : Env → Mu → RS) : Prop := ∃ t, PSs X sts t ∧ ∀ Hs H rh sg et m Dn, SR X.K Hs H rh sg et m → PostS X.K W Hs H rh Dn (f et m) → t Dn sg H
/-- a target -/
def SG (e : Expr) (f : Va → Env → Mu → RS) : Prop := ∃ t, PG X e t ∧ ∀ Hs H rh sg et m x v (Q : St2 → Hp → Prop), SR X.K Hs H rh sg et m → RepA X.K Hs rh x v → PostG X.K Hs H rh Q (f x et m) → t v sg H Q
end
/-! ### leaves -/
@[simp] def xVar (i : Nat) : Env → Mu → R Va := fun et m => match et[i]? with
  | some (some d) => .ok d m
  | _ => .stuck
@[simp] def xC (d : D) : Env → Mu → R Va := fun _ m => .ok (.d d) m
section
variable {X : Cx} {W : WX}
theorem se_pe {e : Expr} {i : Nat} (h : PE X e (tVar i)) : SE X W e (xVar i) := by
  refine ⟨_, h, fun Hs H rh sg et m Q s p => ?_⟩
  unfold xVar at p
  cases q : et[i]? with
  | none => rw [q] at p; exact p.elim
  | some o =>
    rw [q] at p
    cases o with
    | none => exact p.elim
    | some d =>
      obtain ⟨v, e1, e2⟩ := s.val i d q
      exact ⟨v, e1, Post.ok_ p .refl s e2⟩
theorem se_var (i : Nat) {x : Str} {pos : Pos} (hN : X.N[i]? = some x) (hv : Vis X.env.scope x) (hd : (x == ("__debug__" : Str)) = false := by decide) (hcd : (x == ("__classdict__" : Str)) = false := by decide) : SE X W (.Name x pos) (xVar i) := se_pe (pe_var hN hv hd hcd)
theorem se_c {e : Expr} {v : V} {d : D} (h : PE X e (tC v)) (r : ∀ Hs, Rep X.K Hs d v) : SE X W e (xC d) := ⟨_, h, fun Hs H rh sg et m Q s p => Post.ok_ p .refl s (r Hs)⟩
theorem se_int {i : Int} {j pos} : SE X W (.Constant (.int i) j pos) (xC (.int i)) := se_c pe_int fun _ => by simp only [Rep]
theorem se_bl {i : Bool} {j pos} : SE X W (.Constant (.bool i) j pos) (xC (.bl i)) := se_c pe_bl fun _ => by simp only [Rep]
theorem se_non {j pos} : SE X W (.Constant .none j pos) (xC .non) := se_c pe_non fun _ => by simp only [Rep]
theorem se_str {x : Str} {j pos} : SE X W (.Constant (.str x) j pos) (xC (.str x)) := se_c pe_str fun _ => by simp only [Rep]
theorem se_glob {x : Str} {v : V} {u : Value} {d : D} {pos : Pos} (hg : Gl X x) (hm : X.mg x = some u) (r : RelV v u) (rp : ∀ Hs, Rep X.K Hs d v) (hd : (x == ("__debug__" : Str)) = false := by decide) : SE X W (.Name x pos) (xC d) := se_c (pe_glob hg hm r hd) rp
/-! ### arguments -/
@[simp] def xNil : Env → Mu → R (List Va) := fun _ m => .ok [] m
@[simp] def xCons (f : Env → Mu → R Va) (g : Env → Mu → R (List Va)) : Env → Mu → R (List Va) := fun et m => (f et m).bind fun d m => (g et m).bind fun ds m => .ok (d :: ds) m
theorem sa_nil : SA X W [] xNil := ⟨_, pa_nil, fun Hs H rh sg et m Q s p => Post.ok_ p .refl s rfl⟩
theorem sa_cons {e : Expr} {es : List Expr} {f : Env → Mu → R Va} {g : Env → Mu → R (List Va)} (hf : SE X W e f) (hg : SA X W es g) (hs : starEach (e :: es) X.env = (false, eval e X.env) :: starEach es X.env := by rfl) : SA X W (e :: es) (xCons f g) := by
  obtain ⟨t, h, r⟩ := hf
  obtain ⟨t', h', r'⟩ := hg
  refine ⟨_, pa_cons h h' hs, fun Hs H rh sg et m Q s p => ?_⟩
  unfold xCons at p
  refine r Hs H rh sg et m _ s (Post.step p fun d m1 v Hs1 H1 rh1 x1 s1 r1 p1 => ?_)
  refine r' Hs1 H1 rh1 sg et m1 _ s1 (Post.step p1 fun ds m2 vs Hs2 H2 rh2 x2 s2 r2 p2 => ?_)
  exact Post.ok_ p2 .refl s2 ⟨v, vs, rfl, r1.ext x2, r2⟩
/-! ### operators by rules -/
/-- a binary rule: the mirror o -/
def OpS (X : Cx) (f : Value → Value → Sem Value) (o : Va → Va → Mu → R Va) : Prop := ∃ r, OpR X f r ∧ ∀ W Hs H rh sg et m x y u v Q, SR X.K Hs H rh sg et m → RepA X.K Hs rh x u → RepA X.K Hs rh y v → Post X.K W (RlA X.K) Hs H rh sg et Q (o x y m) → r u v H Q
@[simp] def xBin (o : Va → Va → Mu → R Va) (f g : Env → Mu → R Va) : Env → Mu → R Va := fun et m => (f et m).bind fun x m => (g et m).bind fun y m => o x y m
variable {a b e : Expr} {pos : Pos} {f g : Env → Mu → R Va} {o : Va → Va → Mu → R Va}
theorem bin_read {ta tb : TE} {r : V → V → Hp → VK → Prop} (ra : ∀ Hs H rh sg et m Q, SR X.K Hs H rh sg et m → Post X.K W (RlA X.K) Hs H rh sg et Q (f et m) → ta sg H Q) (rb : ∀ Hs H rh sg et m Q, SR X.K Hs H rh sg et m → Post X.K W (RlA X.K) Hs H rh sg et Q (g et m) → tb sg H Q)
    {Hs H : Hp} {rh : List Addr} {sg : St2} {et : Env} {m : Mu} {Q : VK} (s : SR X.K Hs H rh sg et m) (ro : ∀ W Hs H rh sg et m x y u v Q, SR X.K Hs H rh sg et m → RepA X.K Hs rh x u → RepA X.K Hs rh y v → Post X.K W (RlA X.K) Hs H rh sg et Q (o x y m) → r u v H Q) (p : Post X.K W (RlA X.K) Hs H rh sg et Q (xBin o f g et m)) : ta sg H fun x H1 => tb sg H1 fun y H2 => r x y H2 Q := by
  unfold xBin at p
  refine ra Hs H rh sg et m _ s (Post.step p fun x m1 u Hs1 H1 rh1 x1 s1 r1 p1 => ?_)
  refine rb Hs1 H1 rh1 sg et m1 _ s1 (Post.step p1 fun y m2 v Hs2 H2 rh2 x2 s2 r2 p2 => ?_)
  exact ro W Hs2 H2 rh2 sg et m2 x y u v Q s2 (r1.ext x2) r2 p2
theorem se_op {op : Operator} (ho : OpS X (binaryOp op) o) (ha : SE X W a f) (hb : SE X W b g) : SE X W (.BinOp a op b pos) (xBin o f g) := by
  obtain ⟨r, h, ro⟩ := ho
  obtain ⟨ta, ha, ra⟩ := ha
  obtain ⟨tb, hb, rb⟩ := hb
  exact ⟨_, pe_op h ha hb, fun Hs H rh sg et m Q s p => bin_read (r := r) ra rb s ro p⟩
theorem se_cmp {op : CmpOp} (ho : OpS X (compareOp op) o) (ha : SE X W a f) (hb : SE X W b g) (hm : behindInMarks op b = false) : SE X W (.Compare a [op] [b] pos) (xBin o f g) := by
  obtain ⟨r, h, ro⟩ := ho
  obtain ⟨ta, ha, ra⟩ := ha
  obtain ⟨tb, hb, rb⟩ := hb
  exact ⟨_, pe_cmpR h ha hb hm, fun Hs H rh sg et m Q s p => bin_read (r := r) ra rb s ro p⟩
/-- a value that is a truth value -/
@[simp] def toB : Va → Mu → R Bool := fun x m => match x with
  | .d (.bl b) => .ok b m
  | _ => .stuck
@[simp] def xTst (f : Env → Mu → R Va) : Env → Mu → R Bool := fun et m => (f et m).bind toB
theorem rep_bl {K : PySem.W.Frag} {H : Hp} {b : Bool} {v : V} (h : Rep K H (.bl b) v) : v = .bl b := by simpa only [Rep] using h
theorem rep_int {K : PySem.W.Frag} {H : Hp} {b : Int} {v : V} (h : Rep K H (.int b) v) : v = .int b := by simpa only [Rep] using h
theorem rep_str {K : PySem.W.Frag} {H : Hp} {b : Str} {v : V} (h : Rep K H (.str b) v) : v = .str b := by simpa only [Rep] using h
theorem rep_non {K : PySem.W.Frag} {H : Hp} {v : V} (h : Rep K H .non v) : v = .non := by simpa only [Rep] using h
theorem rbl (K : PySem.W.Frag) (H : Hp) (b : Bool) : Rep K H (.bl b) (.bl b) := by simp only [Rep]
theorem rint (K : PySem.W.Frag) (H : Hp) (b : Int) : Rep K H (.int b) (.int b) := by simp only [Rep]
theorem rstr (K : PySem.W.Frag) (H : Hp) (b : Str) : Rep K H (.str b) (.str b) := by simp only [Rep]
theorem rnon (K : PySem.W.Frag) (H : Hp) : Rep K H .non .non := by simp only [Rep]
theorem va_bl {K : PySem.W.Frag} {H : Hp} {rh : List Addr} {b : Bool} {v : V} (h : RepA K H rh (.d (.bl b)) v) : v = .bl b := rep_bl (K := K) (H := H) h
theorem va_int {K : PySem.W.Frag} {H : Hp} {rh : List Addr} {b : Int} {v : V} (h : RepA K H rh (.d (.int b)) v) : v = .int b := rep_int (K := K) (H := H) h
theorem va_str {K : PySem.W.Frag} {H : Hp} {rh : List Addr} {b : Str} {v : V} (h : RepA K H rh (.d (.str b)) v) : v = .str b := rep_str (K := K) (H := H) h
theorem va_non {K : PySem.W.Frag} {H : Hp} {rh : List Addr} {v : V} (h : RepA K H rh (.d .non) v) : v = .non := rep_non (K := K) (H := H) h
theorem mk_bl {K : PySem.W.Frag} {H : Hp} {rh : List Addr} {b : Bool} : RepA K H rh (.d (.bl b)) (.bl b) := rbl K H b
theorem mk_int {K : PySem.W.Frag} {H : Hp} {rh : List Addr} {b : Int} : RepA K H rh (.d (.int b)) (.int b) := rint K H b
theorem mk_str {K : PySem.W.Frag} {H : Hp} {rh : List Addr} {b : Str} : RepA K H rh (.d (.str b)) (.str b) := rstr K H b
theorem mk_non {K : PySem.W.Frag} {H : Hp} {rh : List Addr} : RepA K H rh (.d .non) .non := rnon K H
theorem toB_read {te : TE} (re : ∀ Hs H rh sg et m Q, SR X.K Hs H rh sg et m → Post X.K W (RlA X.K) Hs H rh sg et Q (f et m) → te sg H Q) {Hs H : Hp} {rh : List Addr} {sg : St2} {et : Env} {m : Mu} {Q : Bool → Hp → Prop} (s : SR X.K Hs H rh sg et m) (p : Post X.K W RlB Hs H rh sg et Q (xTst f et m)) : te sg H fun x H1 => ∃ c, x = .bl c ∧ Q c H1 := by
  unfold xTst at p
  refine re Hs H rh sg et m _ s (Post.step p fun x m1 u Hs1 H1 rh1 x1 s1 r1 p1 => ?_)
  unfold toB at p1
  split at p1
  · exact ⟨_, va_bl r1, Post.ok_ p1 .refl s1 rfl⟩
  · exact p1.elim
theorem st_cmp {op : CmpOp} (ho : OpS X (compareOp op) o) (ha : SE X W a f) (hb : SE X W b g) (hm : behindInMarks op b = false) : ST X W (.Compare a [op] [b] pos) (xTst (xBin o f g)) := by
  obtain ⟨r, h, ro⟩ := ho
  obtain ⟨ta, ha, ra⟩ := ha
  obtain ⟨tb, hb, rb⟩ := hb
  exact ⟨_, pt_cmpR h ha hb hm, fun Hs H rh sg et m Q s p => toB_read (W := W) (te := tOp r ta tb) (f := xBin o f g) (fun Hs H rh sg et m Q s p => bin_read (r := r) ra rb s ro p) s p⟩
theorem st_val (he : SE X W e f) (hx : ∀ whole, isTrue e X.env whole = (do let v ← whole; standAt e.pos; holding [v] (truthy v)) := by intro _; rfl) : ST X W e (xTst f) := by
  obtain ⟨te, h, r⟩ := he
  exact ⟨_, pt_val h hx, fun Hs H rh sg et m Q s p => toB_read r s p⟩
variable {p q : Env → Mu → R Bool} {rest : List Expr}
@[simp] def xNotT (p : Env → Mu → R Bool) : Env → Mu → R Bool := fun et m => (p et m).bind fun b m => .ok (!b) m
theorem st_not (h : ST X W a p) : ST X W (.UnaryOp .Not a pos) (xNotT p) := by
  obtain ⟨t, h, r⟩ := h
  refine ⟨_, pt_not h, fun Hs H rh sg et m Q s z => r Hs H rh sg et m _ s (Post.step z fun d m1 v Hs1 H1 rh1 x1 s1 r1 p1 => ?_)⟩
  have e : d = v := r1
  subst e
  exact Post.ok_ p1 .refl s1 rfl
@[simp] def xAndT (p q : Env → Mu → R Bool) : Env → Mu → R Bool := fun et m => (p et m).bind fun b m => if b = true then q et m else .ok false m
@[simp] def xOrT (p q : Env → Mu → R Bool) : Env → Mu → R Bool := fun et m => (p et m).bind fun b m => if b = true then .ok true m else q et m
theorem sw_st (h : SWt X W a p) : ST X W a p := let ⟨t, h, r⟩ := h; ⟨t, h.pt, r⟩
theorem sw_and1 (h : ST X W a p) : SWt X W (.BoolOp .And [a] pos) p := let ⟨t, h, r⟩ := h; ⟨t, pw_and1 h, r⟩
theorem sw_or1 (h : ST X W a p) : SWt X W (.BoolOp .Or [a] pos) p := let ⟨t, h, r⟩ := h; ⟨t, pw_or1 h, r⟩
theorem sw_and (ha : ST X W a p) (hb : SWt X W (.BoolOp .And (b :: rest) pos) q) : SWt X W (.BoolOp .And (a :: b :: rest) pos) (xAndT p q) := by
  obtain ⟨ta, ha, ra⟩ := ha
  obtain ⟨tb, hb, rb⟩ := hb
  refine ⟨_, pw_and ha hb, fun Hs H rh sg et m Q s z => ra Hs H rh sg et m _ s (Post.step z fun d m1 v Hs1 H1 rh1 x1 s1 r1 p1 => ?_)⟩
  have e : d = v := r1
  subst e
  cases d with
  | true => exact iteT (rb Hs1 H1 rh1 sg et m1 Q s1 (by simpa using p1))
  | false => exact iteF (Post.ok_ (by simpa using p1) .refl s1 rfl)
theorem sw_or (ha : ST X W a p) (hb : SWt X W (.BoolOp .Or (b :: rest) pos) q) : SWt X W (.BoolOp .Or (a :: b :: rest) pos) (xOrT p q) := by
  obtain ⟨ta, ha, ra⟩ := ha
  obtain ⟨tb, hb, rb⟩ := hb
  refine ⟨_, pw_or ha hb, fun Hs H rh sg et m Q s z => ra Hs H rh sg et m _ s (Post.step z fun d m1 v Hs1 H1 rh1 x1 s1 r1 p1 => ?_)⟩
  have e : d = v := r1
  subst e
  cases d with
  | true => exact iteT (Post.ok_ (by simpa using p1) .refl s1 rfl)
  | false => exact iteF (rb Hs1 H1 rh1 sg et m1 Q s1 (by simpa using p1))
/-! as values -/
@[simp] def xNot (f : Env → Mu → R Va) : Env → Mu → R Va := fun et m => (f et m).bind fun x m => (toB x m).bind fun b m => .ok (.d (.bl (!b))) m
@[simp] def xAnd (f g : Env → Mu → R Va) : Env → Mu → R Va := fun et m => (f et m).bind fun x m => (toB x m).bind fun b m => if b = true then g et m else .ok (.d (.bl false)) m
@[simp] def xOr (f g : Env → Mu → R Va) : Env → Mu → R Va := fun et m => (f et m).bind fun x m => (toB x m).bind fun b m => if b = true then .ok (.d (.bl true)) m else g et m
theorem toB_cases {x : Va} {m : Mu} : (∃ b, x = .d (.bl b) ∧ toB x m = .ok b m) ∨ toB x m = .stuck := by
  unfold toB
  split
  · exact .inl ⟨_, rfl, rfl⟩
  · exact .inr rfl
theorem se_not (h : SE X W a f) : SE X W (.UnaryOp .Not a pos) (xNot f) := by
  obtain ⟨t, h, r⟩ := h
  refine ⟨_, pe_not h, fun Hs H rh sg et m Q s z => r Hs H rh sg et m _ s (Post.step z fun d m1 v Hs1 H1 rh1 x1 s1 r1 p1 => ?_)⟩
  rcases toB_cases (x := d) (m := m1) with ⟨b, rfl, e⟩ | e
  · rw [e] at p1
    exact ⟨b, va_bl r1, Post.ok_ p1 .refl s1 mk_bl⟩
  · rw [e] at p1
    exact p1.elim
theorem se_one {op} (h : SE X W a f) : SE X W (.BoolOp op [a] pos) f := let ⟨t, h, r⟩ := h; ⟨t, pe_one h, r⟩
theorem se_and (ha : SE X W a f) (hb : SE X W (.BoolOp .And (b :: rest) pos) g) : SE X W (.BoolOp .And (a :: b :: rest) pos) (xAnd f g) := by
  obtain ⟨ta, ha, ra⟩ := ha
  obtain ⟨tb, hb, rb⟩ := hb
  refine ⟨_, pe_and ha hb, fun Hs H rh sg et m Q s z => ra Hs H rh sg et m _ s (Post.step z fun d m1 v Hs1 H1 rh1 x1 s1 r1 p1 => ?_)⟩
  rcases toB_cases (x := d) (m := m1) with ⟨b, rfl, e⟩ | e
  · rw [e] at p1
    refine ⟨b, va_bl r1, ?_⟩
    cases b with
    | true => exact iteT (rb Hs1 H1 rh1 sg et m1 Q s1 (by simpa [R.bind] using p1))
    | false => exact iteF (Post.ok_ (m := m1) (d := Va.d (.bl false)) (by simpa [R.bind] using p1) .refl s1 mk_bl)
  · rw [e] at p1
    exact p1.elim
theorem se_or (ha : SE X W a f) (hb : SE X W (.BoolOp .Or (b :: rest) pos) g) : SE X W (.BoolOp .Or (a :: b :: rest) pos) (xOr f g) := by
  obtain ⟨ta, ha, ra⟩ := ha
  obtain ⟨tb, hb, rb⟩ := hb
  refine ⟨_, pe_or ha hb, fun Hs H rh sg et m Q s z => ra Hs H rh sg et m _ s (Post.step z fun d m1 v Hs1 H1 rh1 x1 s1 r1 p1 => ?_)⟩
  rcases toB_cases (x := d) (m := m1) with ⟨b, rfl, e⟩ | e
  · rw [e] at p1
    refine ⟨b, va_bl r1, ?_⟩
    cases b with
    | true => exact iteT (Post.ok_ (m := m1) (d := Va.d (.bl true)) (by simpa [R.bind] using p1) .refl s1 mk_bl)
    | false => exact iteF (rb Hs1 H1 rh1 sg et m1 Q s1 (by simpa [R.bind] using p1))
  · rw [e] at p1
    exact p1.elim
@[simp] def xIf (p : Env → Mu → R Bool) (f g : Env → Mu → R Va) : Env → Mu → R Va := fun et m => (p et m).bind fun b m => if b = true then f et m else g et m
theorem se_if {c : Expr} (hc : ST X W c p) (ha : SE X W a f) (hb : SE X W b g) : SE X W (.IfExp c a b pos) (xIf p f g) := by
  obtain ⟨tc, hc, rc⟩ := hc
  obtain ⟨ta, ha, ra⟩ := ha
  obtain ⟨tb, hb, rb⟩ := hb
  refine ⟨_, pe_ifExp hc ha hb, fun Hs H rh sg et m Q s z => rc Hs H rh sg et m _ s (Post.step z fun d m1 v Hs1 H1 rh1 x1 s1 r1 p1 => ?_)⟩
  have e : d = v := r1
  subst e
  cases d with
  | true => exact iteT (ra Hs1 H1 rh1 sg et m1 Q s1 (by simpa using p1))
  | false => exact iteF (rb Hs1 H1 rh1 sg et m1 Q s1 (by simpa using p1))
end
/-! ### statements -/
section
variable {X : Cx} {W : WX} {a b e : Expr} {pos : Pos} {f g : Env → Mu → R Va} {p : Env → Mu → R Bool} {st : Stmt} {sts sts' : List Stmt} {u v : Env → Mu → RS}
@[simp] def zNil : Env → Mu → RS := fun e m => .nx e m
@[simp] def zSeq (u v : Env → Mu → RS) : Env → Mu → RS := fun e m => (u e m).thn v
theorem sb_nil : SB X W [] zNil := ⟨_, pss_nil, fun Hs H rh sg et m Dn s z => z sg Hs H rh .refl s⟩
theorem sb_one (h : SS X W st u) : SB X W [st] u := let ⟨t, h, r⟩ := h; ⟨t, pss_one h, r⟩
theorem sb_cons (h1 : SS X W st u) (h2 : SB X W sts v) : SB X W (st :: sts) (zSeq u v) := by
  obtain ⟨t, h, r⟩ := h1
  obtain ⟨t', h', r'⟩ := h2
  refine ⟨_, pss_cons h h', fun Hs H rh sg et m Dn s z => r Hs H rh sg et m _ s ?_⟩
  unfold zSeq RS.thn at z
  cases q : u et m with
  | nx e1 m1 =>
    rw [q] at z
    exact fun sg' Hs' H' rh' x s' => r' Hs' H' rh' sg' e1 m1 Dn s' (PostS.ext x z)
  | ret _ _ _ => rw [q] at z; exact z
  | brk _ _ => rw [q] at z; exact z
  | cnt _ _ => rw [q] at z; exact z
  | exc _ _ _ _ => rw [q] at z; exact z
  | stuck => rw [q] at z; exact z
@[simp] def zPass : Env → Mu → RS := fun e m => .nx e m
@[simp] def zBrk : Env → Mu → RS := fun e m => .brk e m
@[simp] def zCnt : Env → Mu → RS := fun e m => .cnt e m
theorem ss_pass : SS X W (.Pass pos) zPass := ⟨_, ps_pass, fun Hs H rh sg et m Dn s z => z sg Hs H rh .refl s⟩
theorem ss_break : SS X W (.Break pos) zBrk := ⟨_, ps_break, fun Hs H rh sg et m Dn s z => z sg Hs H rh .refl s⟩
theorem ss_continue : SS X W (.Continue pos) zCnt := ⟨_, ps_continue, fun Hs H rh sg et m Dn s z => z sg Hs H rh .refl s⟩
@[simp] def zExpr (f : Env → Mu → R Va) : Env → Mu → RS := fun e m => (f e m).toS e fun _ m => .nx e m
theorem ss_expr (h : SE X W e f) (hs : swapsWith e none pos.line X.env = pure false := by rfl) : SS X W (.Expr e pos) (zExpr f) := by
  obtain ⟨t, h, r⟩ := h
  refine ⟨_, ps_expr h hs, fun Hs H rh sg et m Dn s z => r Hs H rh sg et m _ s (Post.toS s z fun d m1 v Hs1 H1 rh1 x1 s1 r1 p1 => ?_)⟩
  exact p1 sg Hs1 H1 rh1 .refl s1
@[simp] def zRet (f : Env → Mu → R Va) : Env → Mu → RS := fun e m => (f e m).toS e fun d m => .ret d e m
theorem ss_ret (h : SE X W e f) : SS X W (.Return (some e) pos) (zRet f) := by
  obtain ⟨t, h, r⟩ := h
  refine ⟨_, ps_ret h, fun Hs H rh sg et m Dn s z => r Hs H rh sg et m _ s (Post.toS s z fun d m1 v Hs1 H1 rh1 x1 s1 r1 p1 => ?_)⟩
  exact p1 v sg Hs1 H1 rh1 .refl s1 r1
@[simp] def zRetN : Env → Mu → RS := fun e m => .ret (.d .non) e m
theorem ss_retN : SS X W (.Return none pos) zRetN := ⟨_, ps_retN, fun Hs H rh sg et m Dn s z => z .non sg Hs H rh .refl s mk_non⟩
@[simp] def zIf (p : Env → Mu → R Bool) (u v : Env → Mu → RS) : Env → Mu → RS := fun e m => (p e m).toS e fun b m => if b = true then u e m else v e m
theorem ss_if (hc : ST X W e p) (ha : SB X W sts u) (hb : SB X W sts' v) : SS X W (.If e sts sts' pos) (zIf p u v) := by
  obtain ⟨tc, hc, rc⟩ := hc
  obtain ⟨ta, ha, ra⟩ := ha
  obtain ⟨tb, hb, rb⟩ := hb
  refine ⟨_, ps_if hc ha hb, fun Hs H rh sg et m Dn s z => rc Hs H rh sg et m _ s ?_⟩
  unfold zIf R.toS at z
  cases q : p et m with
  | ok b1 m1 =>
    rw [q] at z
    intro c Hs' H' rh' x s' e
    have e' : b1 = c := e
    subst e'
    cases b1 with
    | true => exact iteT (ra Hs' H' rh' sg et m1 Dn s' (PostS.ext x (by simpa using z)))
    | false => exact iteF (rb Hs' H' rh' sg et m1 Dn s' (PostS.ext x (by simpa using z)))
  | exc c d m1 => rw [q] at z; exact fun dx v Hs' H' rh' y s q r => z dx v sg Hs' H' rh' y s q r
  | stuck => rw [q] at z; exact z.elim
/-- targets -/
@[simp] def gN (i : Nat) : Va → Env → Mu → RS := fun x e m => .nx (e.set i (some x)) m
theorem sg_name {i : Nat} {x : Str} (hN : X.N.Nodup) (hi : X.N[i]? = some x) (hx : Loc X.env.scope x) (hf : X.fn x = true ∨ X.env.scope.names.lookup x = some .local := by first | exact .inl rfl | exact .inr rfl | assumption) : SG X (.Name x pos) (gN i) :=
  ⟨_, pg_name hN hi hx hf, fun Hs H rh sg et m x v Q s r z => z _ Hs H rh .refl (s.set r)⟩
@[simp] def gTupS (gs : List (Va → Env → Mu → RS)) : List D → Env → Mu → RS := match gs with
  | [] => fun ds e m => match ds with
    | [] => .nx e m
    | _ => .stuck
  | g :: gs => fun ds e m => match ds with
    | d :: ds => (g (.d d) e m).stored (gTupS gs ds)
    | [] => .stuck
def SGs (X : Cx) (es : List Expr) (gs : List (Va → Env → Mu → RS)) : Prop := ∃ t, PGs X es t ∧ ∀ Hs H rh sg et m ds vs (Q : St2 → Hp → Prop), SR X.K Hs H rh sg et m → Reps X.K Hs ds vs → PostG X.K Hs H rh Q (gTupS gs ds et m) → t vs sg H Q
theorem sgs_nil : SGs X [] [] := ⟨_, pgs_nil, fun Hs H rh sg et m ds vs Q s r z => by
  cases ds with
  | nil => exact ⟨reps_nil.mp r, z _ Hs H rh .refl s⟩
  | cons d ds => exact z.elim⟩
theorem sgs_cons {es : List Expr} {g : Va → Env → Mu → RS} {gs : List (Va → Env → Mu → RS)} (h1 : SG X e g) (h2 : SGs X es gs) (hs : (assignEach (e :: es) X.env).map (·.2) = assign e X.env :: (assignEach es X.env).map (·.2) := by rfl) : SGs X (e :: es) (g :: gs) := by
  obtain ⟨t, h, r⟩ := h1
  obtain ⟨t', h', r'⟩ := h2
  refine ⟨_, pgs_cons h h' hs, fun Hs H rh sg et m ds vs Q s rr z => ?_⟩
  cases ds with
  | nil => exact z.elim
  | cons d ds =>
    simp only [Reps] at rr
    obtain ⟨v, rs, rfl, r1, r2⟩ := rr
    refine ⟨v, rs, rfl, r Hs H rh sg et m (.d d) v _ s r1 ?_⟩
    have z' : PostG X.K Hs H rh Q ((g (.d d) et m).stored (gTupS gs ds)) := z
    unfold RS.stored at z'
    cases q : g (.d d) et m with
    | nx e1 m1 =>
      rw [q] at z'
      intro sg' Hs' H' rh' x s'
      refine r' Hs' H' rh' sg' e1 m1 ds rs Q s' (r2.mono x.sub) ?_
      dsimp only at z'
      cases q2 : gTupS gs ds e1 m1 with
      | nx e2 m2 => rw [q2] at z'; exact fun sg2 Hs2 H2 rh2 x2 s2 => z' sg2 Hs2 H2 rh2 (x.trans x2) s2
      | _ => rw [q2] at z'; exact z'.elim
    | _ => rw [q] at z'; exact z'.elim
@[simp] def gT (gs : List (Va → Env → Mu → RS)) : Va → Env → Mu → RS := fun x e m => match x with
  | .d (.tup ds) => if ds.length = gs.length then gTupS gs ds e m else .stuck
  | _ => .stuck
theorem sg_tup {es : List Expr} {k : Nat} {gs : List (Va → Env → Mu → RS)} (hc : X.calm = true) (hl : gs.length = es.length) (h : SGs X es gs)
    (hn : (assignEach es X.env).length = es.length := by rfl) (hst : (assignEach es X.env).findIdx? (·.1) = none := by rfl) : SG X (.Tuple es k pos) (gT gs) := by
  obtain ⟨t, h, r⟩ := h
  refine ⟨_, pg_tup hc h hn hst, fun Hs H rh sg et m x v Q s rr z => ?_⟩
  unfold gT at z
  cases x with
  | l n => exact z.elim
  | d x =>
    cases x with
    | tup ds =>
      have rr' : Rep X.K Hs (.tup ds) v := rr
      simp only [Rep] at rr'
      obtain ⟨a, vs, e1, e2, e3⟩ := rr'
      dsimp only at z
      by_cases hlen : ds.length = gs.length
      · rw [if_pos hlen] at z
        exact ⟨a, vs, e1, Same.seqT s.sc.same e2, by rw [e3.length, hlen, hl], r Hs H rh sg et m ds vs Q s e3 z⟩
      · rw [if_neg hlen] at z
        exact z.elim
    | _ => exact z.elim
@[simp] def zAsg (f : Env → Mu → R Va) (t : Va → Env → Mu → RS) : Env → Mu → RS := fun e m => (f e m).toS e fun d m => (t d e m).stored RS.nx
theorem asg_read {te : TE} {tg : TG} {t : Va → Env → Mu → RS} (r : ∀ Hs H rh sg et m Q, SR X.K Hs H rh sg et m → Post X.K W (RlA X.K) Hs H rh sg et Q (f et m) → te sg H Q) (rg : ∀ Hs H rh sg et m x v (Q : St2 → Hp → Prop), SR X.K Hs H rh sg et m → RepA X.K Hs rh x v → PostG X.K Hs H rh Q (t x et m) → tg v sg H Q) {Hs H : Hp} {rh : List Addr} {sg : St2} {et : Env} {m : Mu} {Dn : Ends} (s : SR X.K Hs H rh sg et m) (z : PostS X.K W Hs H rh Dn (zAsg f t et m)) : te sg H fun x H1 => tg x sg H1 Dn.nx := by
  refine r Hs H rh sg et m _ s (Post.toS s z fun d m1 v Hs1 H1 rh1 x1 s1 r1 p1 => rg Hs1 H1 rh1 sg et m1 d v _ s1 r1 ?_)
  cases q : t d et m1 with
  | nx e2 m2 => rw [q] at p1; exact fun sg' Hs' H' rh' x s' => p1 sg' Hs' H' rh' x s'
  | _ => rw [q] at p1; exact p1.elim
theorem ss_asg {tg : Expr} {t : Va → Env → Mu → RS} (he : SE X W e f) (hg : SG X tg t) (hs : swapsWithSole [tg] e pos.line X.env = pure false := by rfl) (hw : swappedStores [tg] e X.env = pure none := by rfl) (h1 : (assignEach [tg] X.env).map (·.2) = [assign tg X.env] := by rfl) : SS X W (.Assign [tg] e pos) (zAsg f t) := by
  obtain ⟨te, h, r⟩ := he
  obtain ⟨tg', hg, rg⟩ := hg
  exact ⟨_, ps_asg h hg hs hw h1, fun Hs H rh sg et m Dn s z => asg_read r rg s z⟩
/-- x = e -/
theorem ss_set {i : Nat} {x : Str} {pos' : Pos} (hN : X.N.Nodup) (hi : X.N[i]? = some x) (hx : Loc X.env.scope x) (he : SE X W e f) (hs : swapsWith e (some (.Name x pos')) pos.line X.env = pure false := by rfl) (hf : X.fn x = true ∨ X.env.scope.names.lookup x = some .local := by first | exact .inl rfl | exact .inr rfl | assumption) :
    SS X W (.Assign [.Name x pos'] e pos) (zAsg f (gN i)) := by
  obtain ⟨te, h, r⟩ := he
  exact ⟨_, ps_set hN hi hx h hs hf, fun Hs H rh sg et m Dn s z => asg_read (tg := gName i) (t := gN i) r (fun Hs H rh sg et m x v Q s r z => z _ Hs H rh .refl (s.set r)) s z⟩
end
end DL
set_option maxHeartbeats 4000000
namespace DL
open PySem PySem.Spec PyProof.Rows L2
/-! ## Calls of defs -/
theorem passN {X : Cx} : Passes (L2N.CX X.prog X.w) X E0 := fun _ _ _ _ _ _ _ h => by
  obtain ⟨_, _, _, _, _, _, _, _, _, _, _, _, z⟩ := h
  exact z.elim
/-- around a part that lets nothing out -/
theorem takesN0 {X : Cx} : L2N.Takes X (fun _ _ _ _ => False) := fun _ _ x => by
  obtain ⟨_, _, _, _, _, _, _, _, _, _, _, _, _, _, _, _, z⟩ := x
  exact z.elim
@[simp] def datas : List Va → Option (List D)
  | [] => some []
  | .d x :: r => (datas r).map (x :: ·)
  | .l _ :: _ => none
section
variable (K : PySem.W.Frag)
def PostP (Hs H : Hp) (Q : VK) (E : XK) : R0 → Prop
  | .ok d => ∀ v Hs' H', Same Hs Hs' → Same Hs' H' → Same H H' → (∀ b, Hs' b ≠ none → Hs b ≠ none ∨ H b = none) → Rep K Hs' d v → Q v H'
  | .exc c d => ∀ dx v Hs' H', Same Hs Hs' → Same Hs' H' → Same H H' → (∀ b, Hs' b ≠ none → Hs b ≠ none ∨ H b = none) → XdAt H Hs' H' [] dx v → Rep K Hs' d v → E (.ref (cA K c)) (some dx) H'
  | .stuck => False
def SpP (n : Nat) (F : List D → R0) : Sp := fun vs H Q E => vs.length = n ∧ ∃ Hs ds, Same Hs H ∧ Reps K Hs ds vs ∧ PostP K Hs H Q E (F ds)
def PostF (Hs H : Hp) (rh : List Addr) (Q : VK) (E : XK) : R Va → Prop
  | .ok d m => ∀ v Hs' H' rh', Ext Hs H rh Hs' H' rh' → SC K Hs' H' rh' m → RepA K Hs' rh' d v → Q v H'
  | .exc c d m => ∀ dx v Hs' H' rh', Ext Hs H rh Hs' H' rh' → SC K Hs' H' rh' m → XdAt H Hs' H' rh' dx v → Rep K Hs' d v → E (.ref (cA K c)) (some dx) H'
  | .stuck => False
def SpS (n : Nat) (F : List Va → Mu → R Va) : Sp := fun vs H Q E => vs.length = n ∧ ∃ Hs rh m ds, SC K Hs H rh m ∧ RepAs K Hs rh ds vs ∧ PostF K Hs H rh Q E (F ds m)
end
structure FnP (P : Program) (w : World) (K : PySem.W.Frag) (mg : Str → Option Value) (base : Heap) (k : Nat) (x : Str) (n : Nat) (F : List D → R0) : Prop where
  ex : ∃ f fd ps, mg x = some (.ref f) ∧ PySem.W.keepIn K (.ref f) = true ∧ Binds K fd ps [] ∧ FnOk P w K mg base (L2N.CX P w) k f fd ps (SpP K n F)
structure FnS (P : Program) (w : World) (K : PySem.W.Frag) (mg : Str → Option Value) (base : Heap) (k : Nat) (x : Str) (n : Nat) (F : List Va → Mu → R Va) : Prop where
  ex : ∃ f fd ps, mg x = some (.ref f) ∧ PySem.W.keepIn K (.ref f) = true ∧ Binds K fd ps [] ∧ FnOk P w K mg base (L2N.CX P w) k f fd ps (SpS K n F)
@[simp] def liftP (F : List D → R0) (as : List Va) (m : Mu) : R Va := match datas as with
  | some ds => (match F ds with
    | .ok d => .ok (.d d) m
    | .exc c d => .exc c d m
    | .stuck => .stuck)
  | none => .stuck
section
variable {K : PySem.W.Frag} {Hs H Hs1 H1 : Hp} {rh : List Addr} {W : WX} {sg : St2} {et : Env} {m : Mu}
theorem reps_datas : ∀ {as : List Va} {vs : List V} {ds : List D}, RepAs K Hs rh as vs → datas as = some ds → Reps K Hs ds vs
  | [], vs, ds, h, e => by
    cases e
    exact reps_nil.mpr h
  | .d x :: r, vs, ds, h, e => by
    obtain ⟨v, r', rfl, h1, h2⟩ := h
    have e' : (datas r).map (x :: ·) = some ds := e
    cases q : datas r with
    | none => rw [q] at e'; cases e'
    | some ds' =>
      rw [q] at e'
      cases e'
      exact reps_cons.mpr ⟨h1, reps_datas h2 q⟩
  | .l _ :: _, _, _, _, e => by cases e
theorem RepAs.length : ∀ {as : List Va} {vs : List V}, RepAs K Hs rh as vs → vs.length = as.length
  | [], vs, h => by rw [show vs = [] from h]; rfl
  | _ :: r, vs, h => by
    obtain ⟨v, r', rfl, h1, h2⟩ := h
    rw [List.length_cons, List.length_cons, RepAs.length h2]
/-- a pure def's promise, where cells stand beside -/
theorem postP_of {F : List D → R0} {as : List Va} {vs : List V} {Q : VK} (s : SR K Hs H rh sg et m) (r : RepAs K Hs rh as vs) {n : Nat} (hn : vs.length = n) (p : Post K W (RlA K) Hs H rh sg et Q (liftP F as m)) : SpP K n F vs H Q (WE W sg) := by
  unfold liftP at p
  cases q : datas as with
  | none => rw [q] at p; exact p.elim
  | some ds =>
    rw [q] at p
    refine ⟨hn, Hs, ds, s.sc.same, reps_datas r q, ?_⟩
    dsimp only at p
    cases z : F ds with
    | ok d =>
      rw [z] at p
      intro v Hs' H' a b c f hv
      obtain ⟨sc, x⟩ := s.sc.frame a b c f
      exact p v Hs' H' rh x (s.ext x sc) hv
    | exc c d =>
      rw [z] at p
      intro dx v Hs' H' a b c f hd hv
      obtain ⟨sc, x⟩ := s.sc.frame a b c f
      exact p dx v Hs' H' rh x (s.ext x sc) ⟨hd.new, hd.fro, fun z => s.sc.old dx z hd.new, hd.at_⟩ hv
    | stuck => rw [z] at p; exact p.elim
theorem postS_of {F : List Va → Mu → R Va} {as : List Va} {vs : List V} {Q : VK} (s : SR K Hs H rh sg et m) (r : RepAs K Hs rh as vs) {n : Nat} (hn : vs.length = n) (p : Post K W (RlA K) Hs H rh sg et Q (F as m)) : SpS K n F vs H Q (WE W sg) := by
  refine ⟨hn, Hs, rh, m, as, s.sc, r, ?_⟩
  cases z : F as m with
  | ok d m' =>
    rw [z] at p
    exact fun v Hs' H' rh' x sc hv => p v Hs' H' rh' x (s.ext x sc) hv
  | exc c d m' =>
    rw [z] at p
    exact fun dx v Hs' H' rh' x sc hd hv => p dx v Hs' H' rh' x (s.ext x sc) hd hv
  | stuck => rw [z] at p; exact p.elim
end
@[simp] def xCallP (n : Nat) (F : List D → R0) (g : Env → Mu → R (List Va)) : Env → Mu → R Va := fun et m => (g et m).bind fun as m => if as.length = n then liftP F as m else .stuck
@[simp] def xCallS (n : Nat) (F : List Va → Mu → R Va) (g : Env → Mu → R (List Va)) : Env → Mu → R Va := fun et m => (g et m).bind fun as m => if as.length = n then F as m else .stuck
section
variable {X : Cx} {W : WX} {k n : Nat} {x : Str} {p pos : Pos} {e : Expr} {es : List Expr} {g : Env → Mu → R (List Va)}
theorem se_callP {F : List D → R0} (hf : FnP X.prog X.w X.K X.mg X.base k x n F) (hr : Room k X.A) (tk : L2N.Takes X W) (hg : Gl X x) (ha : SA X W (e :: es) g) (hdb : (x == ("__debug__" : Str)) = false := by decide)
    (he : starEach (e :: es) X.env = (false, eval e X.env) :: starEach es X.env := by rfl) (hpl : (backTo pos (starEach es X.env)).any (·.1) = false := by rfl) : SE X W (.Call (.Name x p) (e :: es) [] pos) (xCallP n F g) := by
  obtain ⟨f, fd, ps, hm, hk, hb, ok⟩ := hf.ex
  obtain ⟨t, ht, r⟩ := ha
  refine ⟨_, pe_callS ok hr hg hm hk hb (fun sg => L2N.passAt tk sg) ht hdb he hpl, fun Hs H rh sg et m Q s z => ?_⟩
  unfold xCallP at z
  refine r Hs H rh sg et m _ s (Post.step z fun as m1 vs Hs1 H1 rh1 x1 s1 r1 p1 => ?_)
  by_cases hl : as.length = n
  · rw [if_pos hl] at p1
    exact postP_of s1 r1 (by rw [r1.length, hl]) p1
  · rw [if_neg hl] at p1
    exact p1.elim
theorem se_callS {F : List Va → Mu → R Va} (hf : FnS X.prog X.w X.K X.mg X.base k x n F) (hr : Room k X.A) (tk : L2N.Takes X W) (hg : Gl X x) (ha : SA X W (e :: es) g) (hdb : (x == ("__debug__" : Str)) = false := by decide)
    (he : starEach (e :: es) X.env = (false, eval e X.env) :: starEach es X.env := by rfl) (hpl : (backTo pos (starEach es X.env)).any (·.1) = false := by rfl) : SE X W (.Call (.Name x p) (e :: es) [] pos) (xCallS n F g) := by
  obtain ⟨f, fd, ps, hm, hk, hb, ok⟩ := hf.ex
  obtain ⟨t, ht, r⟩ := ha
  refine ⟨_, pe_callS ok hr hg hm hk hb (fun sg => L2N.passAt tk sg) ht hdb he hpl, fun Hs H rh sg et m Q s z => ?_⟩
  unfold xCallS at z
  refine r Hs H rh sg et m _ s (Post.step z fun as m1 vs Hs1 H1 rh1 x1 s1 r1 p1 => ?_)
  by_cases hl : as.length = n
  · rw [if_pos hl] at p1
    exact postS_of s1 r1 (by rw [r1.length, hl]) p1
  · rw [if_neg hl] at p1
    exact p1.elim
@[simp] def xCall0 (F : List D → R0) : Env → Mu → R Va := fun et m => match F [] with
  | .ok d => .ok (.d d) m
  | _ => .stuck
theorem se_call0 {F : List D → R0} (hf : FnP X.prog X.w X.K X.mg X.base k x 0 F) (hr : Room k X.A) (hg : Gl X x) (hdb : (x == ("__debug__" : Str)) = false := by decide) : SE X W (.Call (.Name x p) [] [] pos) (xCall0 F) := by
  obtain ⟨f, fd, ps, hm, hk, hb, ok⟩ := hf.ex
  refine ⟨_, pe_call0 (dvs := []) (ds := []) (E := E0) ok hr hg hm hk hb .nil passN hdb, fun Hs H rh sg et m Q s z => ?_⟩
  unfold xCall0 at z
  show SpP X.K 0 F [] H Q E0
  refine ⟨rfl, Hs, [], s.sc.same, reps_nil.mpr rfl, ?_⟩
  cases q : F [] with
  | ok d =>
    rw [q] at z
    intro v Hs' H' a b c f hv
    obtain ⟨sc, x⟩ := s.sc.frame a b c f
    exact z v Hs' H' rh x (s.ext x sc) hv
  | exc c d => rw [q] at z; exact z.elim
  | stuck => rw [q] at z; exact z.elim
end
/-! ## A def by its body -/
@[simp] def startD (n : Nat) (as : List Va) : Env := as.map some ++ List.replicate (n - as.length) none
/-- what a body's end says of a pure def -/
@[simp] def outP : RS → R0
  | .ret (.d d) _ _ => .ok d
  | .ret (.l n) _ m => (match m[n]? with
    | some (some (.lst ds)) => .ok (.lst ds)
    | some (some (.dct kvs)) => .ok (.dct kvs)
    | _ => .stuck)
  | .nx _ _ => .ok .non
  | .exc c d _ _ => .exc c d
  | _ => .stuck
structure Cok (X : Cx) (W : WX) (k : Nat) : Prop where
  tk : L2N.Takes X W
  po : PassesOwn (model X.prog X.w) X.A X.env X.xe
  hr : Room k X.A
  calm : X.calm = true
section
variable {P : Program} {w : World} {K : PySem.W.Frag} {mg : Str → Option Value} {base : Heap} {x qual : Str} {params : Arguments} {body : List Stmt} {scope : Scope} {f : Addr} {fd : FuncData} {N ps : List Str} {k n : Nat}
abbrev cxD (P : Program) (w : World) (K : PySem.W.Frag) (mg : Str → Option Value) (base : Heap) (N : List Str) (qual : Str) (scope : Scope) (f : Addr) (cd : Value) (A : Around) (outer : List PySem.Env) (s : Shared) (H : Hp) (E : XK) : Cx := cxOf (L2N.CX P w) P w K mg base N qual scope f cd A outer s H E
theorem start_rep {Hs : Hp} {rh : List Addr} : ∀ {as : List Va} {vs : List V} {n : Nat} (i : Nat) (d : Va), RepAs K Hs rh as vs → (startD n as)[i]? = some (some d) → ∃ v, (vs.map some ++ List.replicate (n - vs.length) (none : Option V))[i]? = some (some v) ∧ RepA K Hs rh d v
  | as, vs, n, i, d, h, e => by
    have hl := h.length
    by_cases hi : i < as.length
    · have get : ∀ {as : List Va} {vs : List V} {i : Nat} {d : Va}, RepAs K Hs rh as vs → as[i]? = some d → ∃ v, vs[i]? = some v ∧ RepA K Hs rh d v := by
        intro as
        induction as with
        | nil => intro vs i d h e; simp at e
        | cons a as ih =>
          intro vs i d h e
          obtain ⟨v, r, rfl, h1, h2⟩ := h
          cases i with
          | zero => simp at e; subst e; exact ⟨v, rfl, h1⟩
          | succ i => obtain ⟨v', q1, q2⟩ := ih (i := i) h2 (by simpa using e); exact ⟨v', by simpa using q1, q2⟩
      unfold startD at e
      rw [List.getElem?_append_left (by simpa using hi), List.getElem?_map] at e
      cases q : as[i]? with
      | none => rw [q] at e; cases e
      | some d' =>
        rw [q] at e
        cases e
        obtain ⟨v, e1, e2⟩ := get h q
        exact ⟨v, by rw [List.getElem?_append_left (by simpa [hl] using hi), List.getElem?_map, e1]; rfl, e2⟩
    · unfold startD at e
      rw [List.getElem?_append_right (by simpa using Nat.le_of_not_lt hi)] at e
      have q := List.mem_of_getElem? e
      rw [List.mem_replicate] at q
      exact nomatch q.2
theorem sr_start {Hs H : Hp} {rh : List Addr} {m : Mu} {as : List Va} {vs : List V} (sc : SC K Hs H rh m) (h : RepAs K Hs rh as vs) : SR K Hs H rh (L2.start N vs) (startD N.length as) m := by
  refine ⟨sc, ?_, fun i d e => start_rep i d h e⟩
  have hl := h.length
  unfold L2.start startD
  simp [hl]
theorem repAs_d {Hs : Hp} {rh : List Addr} : ∀ {ds : List D} {vs : List V}, Reps K Hs ds vs → RepAs K Hs rh (ds.map .d) vs
  | [], vs, h => reps_nil.mp h
  | d :: ds, vs, h => by
    simp only [Reps] at h
    obtain ⟨v, r, rfl, h1, h2⟩ := h
    exact ⟨v, r, rfl, h1, repAs_d h2⟩
theorem fnP_of {F : List D → R0} {g : Env → Mu → RS} (hm : mg x = some (.ref f)) (F0 : FunD K x2 qual params body scope [] [] f fd) (S : FnScope N ps scope) (hb : Binds K fd ps []) (hn : ps.length = n)
    (hbody : ∀ cd A outer s H E, Cok (cxD P w K mg base N qual scope f cd A outer s H E) (fun c d _ H => E c d H) k → SB (cxD P w K mg base N qual scope f cd A outer s H E) (fun c d _ H => E c d H) body g)
    (hF : ∀ ds, ds.length = n → F ds ≠ .stuck → outP (g (startD N.length (ds.map .d)) []) = F ds) : FnP P w K mg base (k + 1) x n F := by
  refine ⟨f, fd, ps, hm, F0.kp, hb, F0.ok S (fun vs H Q E h => h.1.trans hn.symm) fun cd A outer s H vs Q E hr h => ?_⟩
  obtain ⟨hl, Hs, ds, sm, rp, z⟩ := h
  obtain ⟨t, ht, r⟩ := hbody cd A outer s H E ⟨L2N.takes_of (X := cxD P w K mg base N qual scope f cd A outer s H E) rfl rfl rfl rfl, passes_of (X := cxD P w K mg base N qual scope f cd A outer s H E) rfl, hr, rfl⟩
  have sc : SC K Hs H [] [] := ⟨sm, rfl, fun n c e => by simp at e, List.nodup_nil, fun a ha => by cases ha⟩
  refine ⟨t, ht, r Hs H [] _ _ [] _ (sr_start sc (repAs_d rp)) ?_⟩
  have hns : F ds ≠ .stuck := fun q => by rw [q] at z; exact z
  have e := hF ds (by rw [← rp.length]; exact hl) hns
  have rh0 : ∀ {Hs' H' : Hp} {rh' : List Addr}, Ext Hs H [] Hs' H' rh' → Same H H' ∧ (∀ b, Hs' b ≠ none → Hs b ≠ none ∨ H b = none) := fun x => ⟨fun b o q => x.keep b o q (by simp), fun b q => (x.froz b q).imp id fun z => z.elim id fun q => absurd q (by simp)⟩
  show PostS K (fun c d _ H => E c d H) Hs H [] _ (g (startD N.length (ds.map .d)) [])
  cases q : g (startD N.length (ds.map .d)) [] with
  | nx e1 m1 =>
    rw [q] at e
    have e' : R0.ok .non = F ds := e
    rw [← e'] at z
    exact fun sg' Hs' H' rh' x s' => z .non Hs' H' x.sub s'.sc.same (rh0 x).1 (rh0 x).2 (rnon _ _)
  | ret v e1 m1 =>
    rw [q] at e
    cases v with
    | d v =>
      have e' : R0.ok v = F ds := e
      rw [← e'] at z
      exact fun u sg' Hs' H' rh' x s' hv => z u Hs' H' x.sub s'.sc.same (rh0 x).1 (rh0 x).2 hv
    | l i =>
      intro u sg' Hs' H' rh' x s' hv
      obtain ⟨a, ha, rfl⟩ := hv
      have fin : ∀ (c : Ce), m1[i]? = some (some c) → ∃ o, H' a = some o ∧ Hs' a = none ∧ RepO K Hs' rh' c o := fun c hc => by
        obtain ⟨a', o, e1, e2, e3, e4⟩ := s'.sc.cell i c hc
        rw [ha] at e1
        cases e1
        exact ⟨o, e3, e2, e4⟩
      have up : ∀ o, H' a = some o → Hs' a = none → Same Hs (upd Hs' a o) ∧ Same (upd Hs' a o) H' ∧ (∀ b, upd Hs' a o b ≠ none → Hs b ≠ none ∨ H b = none) ∧ Same Hs' (upd Hs' a o) := fun o h1 h2 => by
        have sm2 : Same Hs' (upd Hs' a o) := fun b u e => by rw [upd_ne (ne_of_none e h2)]; exact e
        refine ⟨x.sub.trans sm2, fun b u e => ?_, fun b hb2 => ?_, sm2⟩
        · by_cases hba : b = a
          · subst hba; rw [upd_same] at e; cases e; exact h1
          · rw [upd_ne hba] at e; exact s'.sc.same b u e
        · by_cases hba : b = a
          · subst hba
            rcases x.new b (List.mem_of_getElem? ha) with z | z
            · cases z
            · exact .inr z
          · rw [upd_ne hba] at hb2; exact (rh0 x).2 b hb2
      have e' : (match m1[i]? with
        | some (some (.lst ds)) => R0.ok (.lst ds)
        | some (some (.dct kvs)) => .ok (.dct kvs)
        | _ => .stuck) = F ds := e
      cases qm : m1[i]? with
      | none => rw [qm] at e'; exact absurd e'.symm hns
      | some oc =>
        rw [qm] at e'
        cases oc with
        | none => exact absurd e'.symm hns
        | some c =>
          obtain ⟨o, h1, h2, h3⟩ := fin c qm
          obtain ⟨u1, u2, u3, u4⟩ := up o h1 h2
          cases c with
          | lst xs =>
            dsimp only at e'
            rw [← e'] at z
            obtain ⟨vs', rfl, h4⟩ := h3
            refine z (.ref a) (upd Hs' a (.lst vs')) H' u1 u2 (rh0 x).1 u3 ?_
            simp only [Rep]
            exact ⟨a, vs', rfl, upd_same, h4.mono u4⟩
          | dct xs =>
            dsimp only at e'
            rw [← e'] at z
            obtain ⟨ws, h4, h5⟩ := h3
            refine z (.ref a) (upd Hs' a o) H' u1 u2 (rh0 x).1 u3 ?_
            simp only [Rep]
            exact ⟨a, o, ws, rfl, upd_same, h4, h5.mono u4⟩
          | obj c fs => exact absurd e'.symm hns
  | brk e1 m1 => rw [q] at e; exact absurd e.symm hns
  | cnt e1 m1 => rw [q] at e; exact absurd e.symm hns
  | exc c d e1 m1 =>
    rw [q] at e
    have e' : R0.exc c d = F ds := e
    rw [← e'] at z
    exact fun dx v sg' Hs' H' rh' x s' hd hv => z dx v Hs' H' x.sub s'.sc.same (rh0 x).1 (rh0 x).2 ⟨hd.new, hd.fro, by simp, hd.at_⟩ hv
  | stuck => rw [q] at e; exact absurd e.symm hns
/-- what a body's end says of a def that works upon cells: the cells made within are forgotten -/
def outS (n : Nat) : RS → R Va
  | .ret (.d d) _ m => .ok (.d d) (m.take n)
  | .nx _ m => .ok (.d .non) (m.take n)
  | .exc c d _ m => .exc c d (m.take n)
  | _ => .stuck
end
end DL
set_option maxHeartbeats 4000000
namespace DL
open PySem PySem.Spec PyProof.Rows L2
/-! ## Defs that work upon cells -/
def NotObj : Ce → Prop
  | .obj _ _ => False
  | _ => True
structure Cut (m m' mF : Mu) : Prop where
  len : mF.length = m.length
  pre : mF <+: m'
  objs : ∀ (i : Nat) (c : Ce), mF[i]? = some (some c) → m[i]? = some (some c) ∨ NotObj c
def OutS (m : Mu) : RS → R Va → Prop
  | .ret (.d d) _ m', .ok (.d d') mF => d = d' ∧ Cut m m' mF
  | .nx _ m', .ok (.d d') mF => D.non = d' ∧ Cut m m' mF
  | .ret (.l j) _ m', .ok (.l n) m2 => n = m.length ∧ ∃ mF c, m2 = mF ++ [some c] ∧ Cut m m' mF ∧ m.length ≤ j ∧ m'[j]? = some (some c) ∧ NotObj c
  | .exc c d _ m', .exc c' d' mF => c = c' ∧ d = d' ∧ Cut m m' mF
  | _, _ => False
section
variable {K : PySem.W.Frag} {Hs H Hs1 H1 : Hp} {rh rh1 : List Addr} {m m1 mF : Mu}
theorem RepO.any {c : Ce} {o : HO} (h : RepO K Hs rh c o) (n : NotObj c) (rh1 : List Addr) : RepO K Hs rh1 c o := by
  cases c with
  | lst ds => exact h
  | dct ds => exact h
  | obj c fs => exact n.elim
theorem SC.cut (s0 : SC K Hs H rh m) (s : SC K Hs1 H1 rh1 m1) (x : Ext Hs H rh Hs1 H1 rh1) (c : Cut m m1 mF) : SC K Hs1 H1 rh mF ∧ Ext Hs H rh Hs1 H1 rh := by
  obtain ⟨t, ht⟩ := x.pre
  refine ⟨⟨s.same, c.len.trans s0.mlen, fun i d e => ?_, s0.nd, fun a ha => s.old a (by rw [← ht]; exact List.mem_append_left _ ha)⟩, ⟨x.sub, List.prefix_refl _, x.keep, x.there, fun b hb => .inl hb, x.froz⟩⟩
  have hi : i < rh.length := by rw [← s0.mlen, ← c.len]; exact (List.getElem?_eq_some_iff.mp e).1
  have e1 : m1[i]? = some (some d) := by
    obtain ⟨u, hu⟩ := c.pre
    rw [← hu, List.getElem?_append_left (List.getElem?_eq_some_iff.mp e).1]
    exact e
  obtain ⟨a, o, q1, q2, q3, q4⟩ := s.cell i d e1
  rw [← ht, List.getElem?_append_left hi] at q1
  refine ⟨a, o, q1, q2, q3, ?_⟩
  rcases c.objs i d e with z | z
  · obtain ⟨a', o', r1, r2, r3, r4⟩ := s0.cell i d z
    cases d with
    | lst ds => exact q4
    | dct ds => exact q4
    | obj cn fs =>
      obtain ⟨dx, vs, rfl, h4⟩ := q4
      refine ⟨dx, vs, rfl, ?_⟩
      obtain ⟨dx0, vs0, rfl, h5⟩ := r4
      rw [q1] at r1
      cases r1
      -- the places of the fields are below
      have low : ∀ {fs : List (Str × Va)} {vs : List (Str × V)}, RepAF K Hs1 rh1 fs vs → ∀ {vs0}, RepAF K Hs rh fs vs0 → RepAF K Hs1 rh fs vs := by
        intro fs
        induction fs with
        | nil => intro vs h vs0 _; exact h
        | cons p fs ih =>
          obtain ⟨y, v⟩ := p
          intro vs h vs0 h0
          obtain ⟨v1, r1, e1, g1, g2⟩ := h
          obtain ⟨v2, r2, e2, f1, f2⟩ := h0
          refine ⟨v1, r1, e1, ?_, ih g2 f2⟩
          cases v with
          | d v => exact g1
          | l n =>
            obtain ⟨b1, k1, k2⟩ := g1
            obtain ⟨b2, j1, j2⟩ := f1
            refine ⟨b1, ?_, k2⟩
            rw [← ht, List.getElem?_append_left (List.getElem?_eq_some_iff.mp j1).1] at k1
            exact k1
      exact low h4 h5
  · exact q4.any z rh
end
section
variable {P : Program} {w : World} {K : PySem.W.Frag} {mg : Str → Option Value} {base : Heap} {x qual : Str} {params : Arguments} {body : List Stmt} {scope : Scope} {f : Addr} {fd : FuncData} {N ps : List Str} {k n : Nat}
theorem fnS_of {x2 : Str} {F : List Va → Mu → R Va} {g : Env → Mu → RS} (hm : mg x = some (.ref f)) (F0 : FunD K x2 qual params body scope [] [] f fd) (S : FnScope N ps scope) (hb : Binds K fd ps []) (hn : ps.length = n)
    (hbody : ∀ cd A outer s H E, Cok (cxD P w K mg base N qual scope f cd A outer s H E) (fun c d _ H => E c d H) k → SB (cxD P w K mg base N qual scope f cd A outer s H E) (fun c d _ H => E c d H) body g)
    (hF : ∀ as m, as.length = n → F as m ≠ .stuck → OutS m (g (startD N.length as) m) (F as m)) : FnS P w K mg base (k + 1) x n F := by
  refine ⟨f, fd, ps, hm, F0.kp, hb, F0.ok S (fun vs H Q E h => h.1.trans hn.symm) fun cd A outer s H vs Q E hr h => ?_⟩
  obtain ⟨hl, Hs, rh, m, as, sc, rp, z⟩ := h
  obtain ⟨t, ht, r⟩ := hbody cd A outer s H E ⟨L2N.takes_of (X := cxD P w K mg base N qual scope f cd A outer s H E) rfl rfl rfl rfl, passes_of (X := cxD P w K mg base N qual scope f cd A outer s H E) rfl, hr, rfl⟩
  refine ⟨t, ht, r Hs H rh _ _ m _ (sr_start sc rp) ?_⟩
  have hns : F as m ≠ .stuck := fun q => by rw [q] at z; exact z
  have e := hF as m (by rw [← rp.length]; exact hl) hns
  show PostS K (fun c d _ H => E c d H) Hs H rh _ (g (startD N.length as) m)
  cases q : g (startD N.length as) m with
  | nx e1 m1 =>
    rw [q] at e
    cases qF : F as m with
    | ok v mF =>
      rw [qF] at e z
      cases v with
      | d d' =>
        obtain ⟨rfl, c⟩ := e
        intro sg' Hs' H' rh' x s'
        obtain ⟨c1, x1⟩ := sc.cut s'.sc x c
        exact z .non Hs' H' rh x1 c1 mk_non
      | l j => exact e.elim
    | _ => rw [qF] at e; exact e.elim
  | ret v e1 m1 =>
    rw [q] at e
    cases v with
    | d v =>
      cases qF : F as m with
      | ok v' mF =>
        rw [qF] at e z
        cases v' with
        | d d' =>
          obtain ⟨rfl, c⟩ := e
          intro u sg' Hs' H' rh' x s' hv
          obtain ⟨c1, x1⟩ := sc.cut s'.sc x c
          exact z u Hs' H' rh x1 c1 hv
        | l j => exact e.elim
      | _ => rw [qF] at e; exact e.elim
    | l j =>
      cases qF : F as m with
      | ok v' m2 =>
        rw [qF] at e z
        cases v' with
        | d d' => exact e.elim
        | l n' =>
          obtain ⟨rfl, mF, ce, rfl, c, hj, hce, hno⟩ := e
          intro u sg' Hs' H' rh' x s' hv
          obtain ⟨a, ha, rfl⟩ := hv
          obtain ⟨c1, x1⟩ := sc.cut s'.sc x c
          obtain ⟨a', o, e1, e2, e3, e4⟩ := s'.sc.cell j ce hce
          rw [ha] at e1
          cases e1
          obtain ⟨t', ht'⟩ := x.pre
          have hnr : a ∉ rh := fun hm => by
            obtain ⟨i, hi, e⟩ := List.mem_iff_getElem.mp hm
            have q1 : rh'[i]? = some a := by rw [← ht', List.getElem?_append_left hi, List.getElem?_eq_getElem hi, e]
            obtain ⟨h1, r1⟩ := List.getElem?_eq_some_iff.mp q1
            obtain ⟨h2, r2⟩ := List.getElem?_eq_some_iff.mp ha
            have eq : i = j := (List.getElem_inj s'.sc.nd).mp (r1.trans r2.symm)
            rw [eq, ← sc.mlen] at hi
            exact absurd hi (Nat.not_lt.mpr hj)
          have hmr : a ∈ rh' := List.mem_of_getElem? ha
          have hna : H a = none := (x.new a hmr).elim (fun z => absurd z hnr) id
          have pf : rh <+: rh ++ [a] := List.prefix_append _ _
          refine z (.ref a) Hs' H' (rh ++ [a]) ⟨x1.sub, pf, x1.keep, x1.there, fun b hb => ?_, x1.froz⟩ ⟨c1.same, by rw [List.length_append, List.length_append, c1.mlen]; rfl, fun i d e => ?_, ?_, fun b hb => s'.sc.old b ?_⟩ ⟨a, by rw [sc.mlen]; simp, rfl⟩
          · rcases List.mem_append.mp hb with z | z
            · exact .inl z
            · have eb : b = a := by simpa using z
              exact .inr (by rw [eb]; exact hna)
          · by_cases hi : i < mF.length
            · rw [List.getElem?_append_left hi] at e
              obtain ⟨b, o', q1, q2, q3, q4⟩ := c1.cell i d e
              exact ⟨b, o', by rw [List.getElem?_append_left (by rw [← c1.mlen]; exact hi)]; exact q1, q2, q3, q4.mono (.refl _) pf⟩
            · have hl2 : i = mF.length := by
                have q := (List.getElem?_eq_some_iff.mp e).1
                rw [List.length_append, List.length_singleton] at q
                omega
              subst hl2
              rw [List.getElem?_concat_length] at e
              cases e
              exact ⟨a, o, by rw [c1.mlen]; simp, e2, e3, e4.any hno _⟩
          · rw [List.nodup_append]
            exact ⟨sc.nd, by simp, fun y hy b hb z => hnr (by simp at hb; rw [← hb, ← z]; exact hy)⟩
          · rcases List.mem_append.mp hb with z | z
            · rw [← ht']; exact List.mem_append_left _ z
            · have eb : b = a := by simpa using z
              rw [eb]; exact hmr
      | _ => rw [qF] at e; exact e.elim
  | exc c d e1 m1 =>
    rw [q] at e
    cases qF : F as m with
    | exc c' d' mF =>
      rw [qF] at e z
      obtain ⟨rfl, rfl, ct⟩ := e
      intro dx v sg' Hs' H' rh' x s' hd hv
      obtain ⟨c1, x1⟩ := sc.cut s'.sc x ct
      exact z dx v Hs' H' rh x1 c1 ⟨hd.new, hd.fro, fun z => sc.old dx z hd.new, hd.at_⟩ hv
    | _ => rw [qF] at e; exact e.elim
  | brk e1 m1 => rw [q] at e; exact e.elim
  | cnt e1 m1 => rw [q] at e; exact e.elim
  | stuck => rw [q] at e; exact e.elim
end
/-! ## Loops -/
/-- what an iterator hands on, whatever stands beside -/
def Gv (K : PySem.W.Frag) (J : It) (xs : List Va) (Hs0 : Hp) (rh0 : List Addr) : Prop := ∀ Hs H rh m, SC K Hs H rh m → Same Hs0 Hs → rh0 <+: rh → ∀ i, (i < xs.length → J.go i H ∧ ∀ x H', J.yld i H x H' → ∃ Hs', SC K Hs' H' rh m ∧ Ext Hs H rh Hs' H' rh ∧ ∀ d, xs[i]? = some d → RepA K Hs' rh d x) ∧ (i = xs.length → J.stop i H)
def PostI (K : PySem.W.Frag) (W : WX) (Hs H : Hp) (rh : List Addr) (sg : St2) (et : Env) (Q : It → Hp → Prop) : R (List Va) → Prop
  | .ok xs m => ∀ J Hs' H' rh', Ext Hs H rh Hs' H' rh' → SR K Hs' H' rh' sg et m → Gv K J xs Hs' rh' → Q J H'
  | .exc c d m => ∀ dx v Hs' H' rh', Ext Hs H rh Hs' H' rh' → SR K Hs' H' rh' sg et m → XdAt H Hs' H' rh' dx v → Rep K Hs' d v → W (.ref (cA K c)) (some dx) sg H'
  | .stuck => False
def SI (X : Cx) (W : WX) (tg e : Expr) (f : Env → Mu → R (List Va)) : Prop := ∃ t, PI X tg e t ∧ ∀ Hs H rh sg et m Q, SR X.K Hs H rh sg et m → PostI X.K W Hs H rh sg et Q (f et m) → t sg H Q
@[simp] def dFor (t : Va → Env → Mu → RS) (b : Env → Mu → RS) : List Va → Env → Mu → RS
  | [], e, m => .nx e m
  | x :: xs, e, m => (t x e m).stored fun e m => (b e m).loop (dFor t b xs)
@[simp] def zFor (f : Env → Mu → R (List Va)) (t : Va → Env → Mu → RS) (b : Env → Mu → RS) : Env → Mu → RS := fun e m => (f e m).toS e fun xs m => dFor t b xs e m
section
variable {X : Cx} {W : WX} {tg iter : Expr} {body : List Stmt} {pos : Pos} {f : Env → Mu → R (List Va)} {t : Va → Env → Mu → RS} {b : Env → Mu → RS}
theorem ss_for (hp : PassesOwn (model X.prog X.w) X.A X.env X.xe) (hc : X.calm = true) (hi : SI X W tg iter f) (hg : SG X tg t) (hb : SB X W body b) (hs : ∀ x, foldedSetIterable iter X.env x = pure x := by intro _; rfl) : SS X W (.For tg iter body [] pos) (zFor f t b) := by
  obtain ⟨ti, hi, ri⟩ := hi
  obtain ⟨tt, hg, rg⟩ := hg
  obtain ⟨tb, hb, rb⟩ := hb
  refine ⟨_, ps_for hp hc hi hg hb hs, fun Hs H rh sg et m Dn s z => ri Hs H rh sg et m _ s ?_⟩
  unfold zFor R.toS at z
  cases q : f et m with
  | exc c d m1 => rw [q] at z; exact fun dx v Hs' H' rh' y s q r => z dx v sg Hs' H' rh' y s q r
  | stuck => rw [q] at z; exact z.elim
  | ok xs m1 =>
    rw [q] at z
    intro J Hs0 H0 rh0 x0 s0 gv
    have z0 : PostS X.K W Hs0 H0 rh0 Dn (dFor t b xs et m1) := PostS.ext x0 z
    refine ⟨fun i n sg' H' => n = xs.length - i ∧ i ≤ xs.length ∧ ∃ Hs' rh' e' m', SR X.K Hs' H' rh' sg' e' m' ∧ Same Hs0 Hs' ∧ rh0 <+: rh' ∧ PostS X.K W Hs' H' rh' Dn (dFor t b (xs.drop i) e' m'), ⟨xs.length, rfl, Nat.zero_le _, Hs0, rh0, et, m1, s0, .refl _, List.prefix_refl _, by simpa using z0⟩, ?_⟩
    rintro i n sg1 H1 ⟨rfl, hle, Hs1, rh1, e1, m2, s1, sm1, pf1, p1⟩
    obtain ⟨g1, g2⟩ := gv Hs1 H1 rh1 m2 s1.sc sm1 pf1 i
    by_cases hlt : i < xs.length
    · obtain ⟨go, yl⟩ := g1 hlt
      have hd : xs.drop i = xs[i] :: xs.drop (i + 1) := List.drop_eq_getElem_cons hlt
      rw [hd] at p1
      refine .inr ⟨go, fun sg' H' => ∃ Hs' rh' e' m', SR X.K Hs' H' rh' sg' e' m' ∧ Same Hs0 Hs' ∧ rh0 <+: rh' ∧ PostS X.K W Hs' H' rh' Dn (dFor t b (xs.drop (i + 1)) e' m'), fun sg' H' h => ⟨xs.length - (i + 1), by omega, rfl, hlt, h⟩, fun x H2 hy => ?_⟩
      obtain ⟨Hs2, sc2, x2, rep2⟩ := yl x H2 hy
      have s2 : SR X.K Hs2 H2 rh1 sg1 e1 m2 := s1.ext x2 sc2
      have p2 : PostS X.K W Hs2 H2 rh1 Dn (dFor t b (xs[i] :: xs.drop (i + 1)) e1 m2) := PostS.ext x2 p1
      refine rg Hs2 H2 rh1 sg1 e1 m2 xs[i] x _ s2 (rep2 _ (List.getElem?_eq_getElem hlt)) ?_
      have p3 : PostS X.K W Hs2 H2 rh1 Dn ((t xs[i] e1 m2).stored fun e m => (b e m).loop (dFor t b (xs.drop (i + 1)))) := p2
      unfold RS.stored RS.loop at p3
      cases qt : t xs[i] e1 m2 with
      | nx e3 m3 =>
        rw [qt] at p3
        intro sg3 Hs3 H3 rh3 x3 s3
        refine rb Hs3 H3 rh3 sg3 e3 m3 _ s3 ?_
        have p4 := PostS.ext x3 p3
        dsimp only at p4
        have sm3 : Same Hs0 Hs3 := sm1.trans (x2.sub.trans x3.sub)
        have pf3 : rh0 <+: rh3 := pf1.trans x3.pre
        cases qb : b e3 m3 with
        | nx e4 m4 => rw [qb] at p4; exact fun sg' Hs' H' rh' x' s' => ⟨Hs', rh', e4, m4, s', sm3.trans x'.sub, pf3.trans x'.pre, PostS.ext x' p4⟩
        | cnt e4 m4 => rw [qb] at p4; exact fun sg' Hs' H' rh' x' s' => ⟨Hs', rh', e4, m4, s', sm3.trans x'.sub, pf3.trans x'.pre, PostS.ext x' p4⟩
        | brk e4 m4 => rw [qb] at p4; exact p4
        | ret v e4 m4 => rw [qb] at p4; exact p4
        | exc c d e4 m4 => rw [qb] at p4; exact p4
        | stuck => rw [qb] at p4; exact p4.elim
      | _ => rw [qt] at p3; exact p3.elim
    · have hi : i = xs.length := by omega
      subst hi
      refine .inl ⟨g2 rfl, ?_⟩
      rw [List.drop_length] at p1
      exact p1 sg1 Hs1 H1 rh1 .refl s1
/-! while -/
def dWhile (c : Env → Mu → R Bool) (b : Env → Mu → RS) : Nat → Env → Mu → RS
  | 0, _, _ => .stuck
  | n + 1, e, m => (c e m).toS e fun v m => match v with
    | true => (b e m).loop (dWhile c b n)
    | false => .nx e m
open Classical in
noncomputable def zWhile (c : Env → Mu → R Bool) (b : Env → Mu → RS) : Env → Mu → RS := fun e m => if h : ∃ n, dWhile c b n e m ≠ .stuck then dWhile c b h.choose e m else .stuck
theorem dWhile_more {c : Env → Mu → R Bool} {b : Env → Mu → RS} : ∀ {n : Nat} {e : Env} {m : Mu}, dWhile c b n e m ≠ .stuck → dWhile c b (n + 1) e m = dWhile c b n e m
  | 0, e, m, h => absurd rfl h
  | n + 1, e, m, h => by
    have u : ∀ n, dWhile c b (n + 1) e m = (c e m).toS e fun v m => match v with
      | true => (b e m).loop (dWhile c b n)
      | false => .nx e m := fun n => rfl
    rw [u n] at h ⊢
    rw [u (n + 1)]
    cases q : c e m with
    | ok v m1 =>
      rw [q] at h
      cases v with
      | true =>
        simp only [R.toS_ok] at h ⊢
        cases qb : b e m1 with
        | nx e2 m2 => rw [qb] at h; exact dWhile_more h
        | cnt e2 m2 => rw [qb] at h; exact dWhile_more h
        | _ => rfl
      | false => rfl
    | exc _ _ _ => rfl
    | stuck => rfl
theorem dWhile_ge {c : Env → Mu → R Bool} {b : Env → Mu → RS} {n : Nat} {e : Env} {m : Mu} (h : dWhile c b n e m ≠ .stuck) : ∀ k, dWhile c b (n + k) e m = dWhile c b n e m
  | 0 => rfl
  | k + 1 => by
    have ih := dWhile_ge h k
    exact (dWhile_more (n := n + k) (fun q => h (ih.symm.trans q))).trans ih
theorem zWhile_eq {c : Env → Mu → R Bool} {b : Env → Mu → RS} {n : Nat} {e : Env} {m : Mu} (h : dWhile c b n e m ≠ .stuck) : zWhile c b e m = dWhile c b n e m := by
  unfold zWhile
  have hx : ∃ n, dWhile c b n e m ≠ .stuck := ⟨n, h⟩
  rw [dif_pos hx]
  have h1 := dWhile_ge hx.choose_spec n
  have h2 := dWhile_ge h hx.choose
  rw [← h1, ← h2, Nat.add_comm]
theorem ss_while {e : Expr} {c : Env → Mu → R Bool} (hp : PassesOwn (model X.prog X.w) X.A X.env X.xe) (hc : ST X W e c) (hb : SB X W body b) : SS X W (.While e body [] pos) (zWhile c b) := by
  obtain ⟨tc, hc, rc⟩ := hc
  obtain ⟨tb, hb, rb⟩ := hb
  refine ⟨_, ps_while hp hc hb, fun Hs H rh sg et m Dn s z => ?_⟩
  unfold zWhile at z
  by_cases hx : ∃ n, dWhile c b n et m ≠ .stuck
  · rw [dif_pos hx] at z
    generalize hx.choose = n0 at z
    refine ⟨fun n sg' H' => ∃ Hs' rh' e' m', SR X.K Hs' H' rh' sg' e' m' ∧ PostS X.K W Hs' H' rh' Dn (dWhile c b n e' m'), ⟨n0, Hs, rh, et, m, s, z⟩, ?_⟩
    rintro n sg1 H1 ⟨Hs1, rh1, e1, m1, s1, p1⟩
    cases n with
    | zero => exact p1.elim
    | succ n =>
      refine rc Hs1 H1 rh1 sg1 e1 m1 _ s1 ?_
      have p2 : PostS X.K W Hs1 H1 rh1 Dn ((c e1 m1).toS e1 fun v m => match v with
        | true => (b e1 m).loop (dWhile c b n)
        | false => .nx e1 m) := p1
      unfold R.toS RS.loop at p2
      cases q : c e1 m1 with
      | ok v m2 =>
        rw [q] at p2
        intro v' Hs2 H2 rh2 x2 s2 ev
        have ev' : v = v' := ev
        subst ev'
        cases v with
        | true =>
          refine iteT ?_
          dsimp only at p2
          have p3 := PostS.ext x2 p2
          refine ⟨fun sg' H' => ∃ Hs' rh' e' m', SR X.K Hs' H' rh' sg' e' m' ∧ PostS X.K W Hs' H' rh' Dn (dWhile c b n e' m'), fun sg' H' h => ⟨n, Nat.lt_succ_self n, h⟩, rb Hs2 H2 rh2 sg1 e1 m2 _ s2 ?_⟩
          cases qb : b e1 m2 with
          | nx e4 m4 => rw [qb] at p3; exact fun sg' Hs' H' rh' x' s' => ⟨Hs', rh', e4, m4, s', PostS.ext x' p3⟩
          | cnt e4 m4 => rw [qb] at p3; exact fun sg' Hs' H' rh' x' s' => ⟨Hs', rh', e4, m4, s', PostS.ext x' p3⟩
          | brk e4 m4 => rw [qb] at p3; exact p3
          | ret v e4 m4 => rw [qb] at p3; exact p3
          | exc c d e4 m4 => rw [qb] at p3; exact p3
          | stuck => rw [qb] at p3; exact p3.elim
        | false => exact iteF (p2 sg1 Hs2 H2 rh2 x2 s2)
      | exc cc d m2 => rw [q] at p2; exact fun dx v Hs' H' rh' y s q r => p2 dx v sg1 Hs' H' rh' y s q r
      | stuck => rw [q] at p2; exact p2.elim
  · rw [dif_neg hx] at z
    exact z.elim
end
end DL
set_option maxHeartbeats 4000000
namespace DL
open PySem PySem.Spec PyProof.Rows L2
/-! ## What is read of lists and tuples -/
/-- the items of a list, a local one too -/
@[simp] def asL (m : Mu) : Va → Option (List D)
  | .d (.lst ds) => some ds
  | .d (.scr ns) => some (ns.map .int)
  | .l n => (match m[n]? with
    | some (some (.lst ds)) => some ds
    | _ => none)
  | _ => none
@[simp] def asT : Va → Option (List D)
  | .d (.tup ds) => some ds
  | _ => none
section
variable {K : PySem.W.Frag} {Hs H Hs1 H1 : Hp} {rh : List Addr} {W : WX} {sg : St2} {et : Env} {m : Mu} {x : Va} {v : V} {ds : List D}
theorem reps_ints : ∀ {ns : List Int}, Reps K Hs (ns.map .int) (ns.map V.int)
  | [] => reps_nil.mpr rfl
  | n :: ns => reps_cons.mpr ⟨rint K Hs n, reps_ints⟩
theorem asL_rd (s : SC K Hs H rh m) (r : RepA K Hs rh x v) (e : asL m x = some ds) : ∃ a vs, v = .ref a ∧ SqL K H a vs ∧ Reps K Hs ds vs := by
  cases x with
  | d x =>
    cases x with
    | lst xs =>
      cases e
      have r' : Rep K Hs (.lst ds) v := r
      simp only [Rep] at r'
      obtain ⟨a, vs, e1, e2, e3⟩ := r'
      exact ⟨a, vs, e1, SqL.of (s.same _ _ e2), e3⟩
    | scr ns =>
      cases e
      have r' : Rep K Hs (.scr ns) v := r
      simp only [Rep] at r'
      obtain ⟨a, e1, e2⟩ := r'
      exact ⟨a, _, e1, Same.seq s.same e2, reps_ints⟩
    | _ => cases e
  | l n =>
    obtain ⟨a, e1, rfl⟩ := r
    unfold asL at e
    dsimp only at e
    split at e
    · rename_i ds' q
      cases e
      obtain ⟨a', o, q1, q2, q3, q4⟩ := s.cell n _ q
      rw [e1] at q1
      cases q1
      obtain ⟨vs, rfl, h⟩ := q4
      exact ⟨a, vs, rfl, SqL.of q3, h⟩
    · cases e
/-- .. as it stands in H -/
theorem asL_at (s : SC K Hs H rh m) (r : RepA K Hs rh x v) (e : asL m x = some ds) (ns : ∀ z, x ≠ .d (.scr z)) : ∃ a vs, v = .ref a ∧ H a = some (.lst vs) ∧ Reps K Hs ds vs := by
  cases x with
  | d x =>
    cases x with
    | lst xs =>
      cases e
      have r' : Rep K Hs (.lst ds) v := r
      simp only [Rep] at r'
      obtain ⟨a, vs, e1, e2, e3⟩ := r'
      exact ⟨a, vs, e1, s.same _ _ e2, e3⟩
    | scr z => exact absurd rfl (ns z)
    | _ => cases e
  | l n =>
    obtain ⟨a, e1, rfl⟩ := r
    unfold asL at e
    dsimp only at e
    split at e
    · rename_i ds' q
      cases e
      obtain ⟨a', o, q1, q2, q3, q4⟩ := s.cell n _ q
      rw [e1] at q1
      cases q1
      obtain ⟨vs, rfl, h⟩ := q4
      exact ⟨a, vs, rfl, q3, h⟩
    · cases e
theorem asT_rd (s : SC K Hs H rh m) (r : RepA K Hs rh x v) (e : asT x = some ds) : ∃ a vs, v = .ref a ∧ SqT K H a vs ∧ Reps K Hs ds vs := by
  cases x with
  | d x =>
    cases x with
    | tup xs =>
      cases e
      have r' : Rep K Hs (.tup ds) v := r
      simp only [Rep] at r'
      obtain ⟨a, vs, e1, e2, e3⟩ := r'
      exact ⟨a, vs, e1, Same.seqT s.same e2, e3⟩
    | _ => cases e
  | l n => cases e
/-- a new tuple -/
theorem Post.tupNew {Q : VK} {vs : List V} (s : SR K Hs H rh sg et m) (r : Reps K Hs ds vs) (p : Post K W (RlA K) Hs H rh sg et Q (.ok (.d (.tup ds)) m)) : ∀ a, H a = none → Q (.ref a) (upd H a (.tup vs)) := fun a ha => by
  obtain ⟨c, x, sm⟩ := s.sc.laid (o := .tup vs) ha
  refine p (.ref a) _ _ _ x (s.ext x c) ?_
  show Rep K _ (.tup ds) (.ref a)
  simp only [Rep]
  exact ⟨a, vs, rfl, SqT.of upd_same, r.mono sm⟩
end
/-! ## Numbers, texts, tuples by operators -/
@[simp] def iOp (g : Int → Int → Int) : Va → Va → Mu → R Va := fun x y m => match x, y with
  | .d (.int i), .d (.int j) => .ok (.d (.int (g i j))) m
  | _, _ => .stuck
open Classical in
@[simp] noncomputable def iOpC (C : Int → Int → Prop) (g : Int → Int → Int) : Va → Va → Mu → R Va := fun x y m => match x, y with
  | .d (.int i), .d (.int j) => if C i j then .ok (.d (.int (g i j))) m else .stuck
  | _, _ => .stuck
@[simp] def bOp (g : Int → Int → Bool) : Va → Va → Mu → R Va := fun x y m => match x, y with
  | .d (.int i), .d (.int j) => .ok (.d (.bl (g i j))) m
  | _, _ => .stuck
section
variable {X : Cx}
theorem opS_i {f : Value → Value → Sem Value} {g : Int → Int → Int} (h : OpR X f (rI0 fun i j => .int (g i j))) : OpS X f (iOp g) := by
  refine ⟨_, h, fun W Hs H rh sg et m x y u v Q s r1 r2 p => ?_⟩
  unfold iOp at p
  split at p
  · exact ⟨_, _, va_int r1, va_int r2, Post.ok_ p .refl s mk_int⟩
  · exact p.elim
theorem opS_iC {f : Value → Value → Sem Value} {C : Int → Int → Prop} {g : Int → Int → Int} (h : OpR X f (rI C fun i j => .int (g i j))) : OpS X f (iOpC C g) := by
  refine ⟨_, h, fun W Hs H rh sg et m x y u v Q s r1 r2 p => ?_⟩
  unfold iOpC at p
  split at p
  · rename_i i j
    by_cases c : C i j
    · rw [if_pos c] at p
      exact ⟨_, _, va_int r1, va_int r2, c, Post.ok_ p .refl s mk_int⟩
    · rw [if_neg c] at p
      exact p.elim
  · exact p.elim
theorem opS_b {f : Value → Value → Sem Value} {g : Int → Int → Bool} (h : OpR X f (rI0 fun i j => .bl (g i j))) : OpS X f (bOp g) := by
  refine ⟨_, h, fun W Hs H rh sg et m x y u v Q s r1 r2 p => ?_⟩
  unfold bOp at p
  split at p
  · exact ⟨_, _, va_int r1, va_int r2, Post.ok_ p .refl s mk_bl⟩
  · exact p.elim
@[simp] def oSub := iOp fun i j => i - j
@[simp] noncomputable def oFdiv := iOpC CDivN fun i j => i.fdiv j
@[simp] noncomputable def oMod := iOpC (fun _ j => j ≠ 0) fun i j => i.fmod j
@[simp] noncomputable def oPow := iOpC CPow fun i j => i ^ j.toNat
@[simp] def oLt := bOp fun i j => decide (i < j)
@[simp] def oLe := bOp fun i j => decide (i ≤ j)
@[simp] def oGt := bOp fun i j => decide (j < i)
@[simp] def oGe := bOp fun i j => decide (j ≤ i)
theorem os_sub : OpS X (binaryOp .Sub) oSub := opS_i op_sub
theorem os_fdiv : OpS X (binaryOp .FloorDiv) oFdiv := opS_iC op_fdivN
theorem os_mod : OpS X (binaryOp .Mod) oMod := opS_iC op_modN
theorem os_pow : OpS X (binaryOp .Pow) oPow := opS_iC op_pow
theorem os_lt : OpS X (compareOp .Lt) oLt := opS_b op_lt
theorem os_le : OpS X (compareOp .LtE) oLe := opS_b op_le
theorem os_gt : OpS X (compareOp .Gt) oGt := opS_b op_gt
theorem os_ge : OpS X (compareOp .GtE) oGe := opS_b op_ge
/-- +: numbers, texts, tuples -/
@[simp] def oAdd : Va → Va → Mu → R Va := fun x y m => match x, y with
  | .d (.int i), .d (.int j) => .ok (.d (.int (i + j))) m
  | .d (.str a), .d (.str b) => if a.length + b.length ≤ sizeLine then .ok (.d (.str (a ++ b))) m else .stuck
  | .d (.tup a), .d (.tup b) => if a.length + b.length ≤ sizeLine then .ok (.d (.tup (a ++ b))) m else .stuck
  | _, _ => .stuck
theorem os_add : OpS X (binaryOp .Add) oAdd := by
  refine ⟨_, op_add.or (op_add_str.or op_catA), fun W Hs H rh sg et m x y u v Q s r1 r2 p => ?_⟩
  unfold oAdd at p
  split at p
  · exact .inl ⟨_, _, va_int r1, va_int r2, Post.ok_ p .refl s mk_int⟩
  · rename_i a b
    by_cases c : a.length + b.length ≤ sizeLine
    · rw [if_pos c] at p
      exact .inr (.inl ⟨_, _, va_str r1, va_str r2, c, Post.ok_ p .refl s mk_str⟩)
    · rw [if_neg c] at p
      exact p.elim
  · rename_i a b
    by_cases c : a.length + b.length ≤ sizeLine
    · rw [if_pos c] at p
      obtain ⟨a1, vs, rfl, q1, h1⟩ := asT_rd s.sc r1 rfl
      obtain ⟨a2, us, rfl, q2, h2⟩ := asT_rd s.sc r2 rfl
      refine .inr (.inr ⟨a1, a2, vs, us, rfl, rfl, q1, q2, by rw [h1.length, h2.length]; exact c, fun e => ?_, fun _ e => ?_, fun _ _ => Post.tupNew s (h1.append h2) p⟩)
      · have e' : a = [] := by
          have := h1.length
          rw [e] at this
          exact List.length_eq_zero_iff.mp this.symm
        subst e'
        exact p (.ref a2) Hs H rh .refl s r2
      · have e' : b = [] := by
          have := h2.length
          rw [e] at this
          exact List.length_eq_zero_iff.mp this.symm
        subst e'
        rw [List.append_nil] at p
        exact p (.ref a1) Hs H rh .refl s r1
    · rw [if_neg c] at p
      exact p.elim
  · exact p.elim
open Classical in
/-- *: numbers, a tuple so many times -/
@[simp] noncomputable def oMul : Va → Va → Mu → R Va := fun x y m => match x, y with
  | .d (.int i), .d (.int j) => if CMul i j then .ok (.d (.int (i * j))) m else .stuck
  | .d (.tup a), .d (.int k) => if a ≠ [] ∧ 2 ≤ k ∧ k ≤ 1000 ∧ a.length ≤ 1000 then .ok (.d (.tup (List.replicate k.toNat a).flatten)) m else .stuck
  | _, _ => .stuck
theorem reps_rep {K : PySem.W.Frag} {Hs : Hp} {ds : List D} {vs : List V} (h : Reps K Hs ds vs) : ∀ n : Nat, Reps K Hs (List.replicate n ds).flatten (List.replicate n vs).flatten
  | 0 => reps_nil.mpr rfl
  | n + 1 => by
    rw [List.replicate_succ, List.replicate_succ, List.flatten_cons, List.flatten_cons]
    exact h.append (reps_rep h n)
theorem os_mul : OpS X (binaryOp .Mult) oMul := by
  refine ⟨_, op_mul.or op_repT, fun W Hs H rh sg et m x y u v Q s r1 r2 p => ?_⟩
  unfold oMul at p
  split at p
  · rename_i i j
    by_cases c : CMul i j
    · rw [if_pos c] at p
      exact .inl ⟨_, _, va_int r1, va_int r2, c, Post.ok_ p .refl s mk_int⟩
    · rw [if_neg c] at p
      exact p.elim
  · rename_i a k
    by_cases c : a ≠ [] ∧ 2 ≤ k ∧ k ≤ 1000 ∧ a.length ≤ 1000
    · rw [if_pos c] at p
      obtain ⟨a1, vs, rfl, q1, h1⟩ := asT_rd s.sc r1 rfl
      refine .inr ⟨a1, k, vs, rfl, va_int r2, q1, fun e => c.1 ?_, c.2.1, c.2.2.1, by rw [h1.length]; exact c.2.2.2, Post.tupNew s (reps_rep h1 _) p⟩
      have := h1.length
      rw [e] at this
      exact List.length_eq_zero_iff.mp this.symm
    · rw [if_neg c] at p
      exact p.elim
  · exact p.elim
end
/-! ## Equality, None, in -/
mutual
@[simp] def pd : D → Option PyData
  | .non => some .none
  | .bl b => some (.bool b)
  | .int i => some (.int i)
  | .str x => some (.str x)
  | .tup ds => (pds ds).map .tuple
  | .lst ds => (pds ds).map .list
  | _ => none
@[simp] def pds : List D → Option (List PyData)
  | [] => some []
  | d :: ds => (match pd d, pds ds with
    | some a, some b => some (a :: b)
    | _, _ => none)
end
@[simp] def pdA (m : Mu) : Va → Option PyData
  | .d x => pd x
  | .l n => (match m[n]? with
    | some (some (.lst ds)) => (pds ds).map .list
    | _ => none)
section
variable {K : PySem.W.Frag} {Hs H : Hp}
mutual
theorem pd_dp : ∀ {d : D} {v : V} {p : PyData}, Rep K H d v → pd d = some p → Dp K H v p
  | .non, v, p, h, e => by
    cases e
    rw [rep_non h]
    exact .non
  | .bl b, v, p, h, e => by
    cases e
    rw [rep_bl h]
    exact .bl b
  | .int b, v, p, h, e => by
    cases e
    rw [rep_int h]
    exact .int b
  | .str b, v, p, h, e => by
    cases e
    rw [rep_str h]
    exact .str b
  | .tup ds, v, p, h, e => by
    simp only [Rep] at h
    obtain ⟨a, vs, rfl, e2, e3⟩ := h
    unfold pd at e
    cases q : pds ds with
    | none => rw [q] at e; cases e
    | some ps =>
      rw [q] at e
      cases e
      exact .tup e2 (pds_dp e3 q)
  | .lst ds, v, p, h, e => by
    simp only [Rep] at h
    obtain ⟨a, vs, rfl, e2, e3⟩ := h
    unfold pd at e
    cases q : pds ds with
    | none => rw [q] at e; cases e
    | some ps =>
      rw [q] at e
      cases e
      exact .lst (SqL.of e2) (pds_dp e3 q)
  | .obj c fs, v, p, h, e => by cases e
  | .dct c, v, p, h, e => by cases e
  | .scr c, v, p, h, e => by cases e
  | .ty c, v, p, h, e => by cases e
  | .cls c, v, p, h, e => by cases e
  | .exn a dd c x, v, p, h, e => by cases e
theorem pds_dp : ∀ {ds : List D} {vs : List V} {ps : List PyData}, Reps K H ds vs → pds ds = some ps → DpAll K H vs ps
  | [], vs, ps, h, e => by
    cases e
    rw [reps_nil.mp h]
    exact .nil
  | d :: ds, vs, ps, h, e => by
    simp only [Reps] at h
    obtain ⟨v, r, rfl, h1, h2⟩ := h
    unfold pds at e
    cases q : pd d with
    | none => rw [q] at e; cases e
    | some a =>
      cases q2 : pds ds with
      | none => rw [q, q2] at e; cases e
      | some b =>
        rw [q, q2] at e
        cases e
        exact .cons (pd_dp h1 q) (pds_dp h2 q2)
end
theorem pdA_dp {rh : List Addr} {m : Mu} {x : Va} {v : V} {p : PyData} (s : SC K Hs H rh m) (r : RepA K Hs rh x v) (e : pdA m x = some p) : Dp K H v p := by
  cases x with
  | d x => exact pd_dp (Rep.mono s.same r) e
  | l n =>
    obtain ⟨a, e1, rfl⟩ := r
    unfold pdA at e
    dsimp only at e
    split at e
    · rename_i ds q
      obtain ⟨a', o, q1, q2, q3, q4⟩ := s.cell n _ q
      rw [e1] at q1
      cases q1
      obtain ⟨vs, rfl, h⟩ := q4
      cases q5 : pds ds with
      | none => rw [q5] at e; cases e
      | some ps =>
        rw [q5] at e
        cases e
        exact .lst (SqL.of q3) (pds_dp (h.mono s.same) q5)
    · cases e
end
@[simp] def oEqG (neg : Bool) : Va → Va → Mu → R Va := fun x y m => match pdA m x, pdA m y with
  | some a, some b => if (SeqAt.shaped a && SeqAt.shaped b) = true then .ok (.d (.bl (if neg = true then !PyData.eqv a b else PyData.eqv a b))) m else .stuck
  | _, _ => .stuck
abbrev oEq := oEqG false
abbrev oNe := oEqG true
section
variable {X : Cx}
theorem os_eq (hu : X.A.units + 64 < cLine) : OpS X (compareOp .Eq) oEq := by
  refine ⟨_, op_eqD hu, fun W Hs H rh sg et m x y u v Q s r1 r2 p => ?_⟩
  unfold oEq oEqG at p
  split at p
  · rename_i a b ea eb
    by_cases c : (SeqAt.shaped a && SeqAt.shaped b) = true
    · rw [if_pos c] at p
      have c' := Bool.and_eq_true_iff.mp c
      exact ⟨a, b, pdA_dp s.sc r1 ea, pdA_dp s.sc r2 eb, c'.1, c'.2, Post.ok_ p .refl s mk_bl⟩
    · rw [if_neg c] at p
      exact p.elim
  · exact p.elim
theorem os_ne (hu : X.A.units + 64 < cLine) : OpS X (compareOp .NotEq) oNe := by
  refine ⟨_, op_neD hu, fun W Hs H rh sg et m x y u v Q s r1 r2 p => ?_⟩
  unfold oNe oEqG at p
  split at p
  · rename_i a b ea eb
    by_cases c : (SeqAt.shaped a && SeqAt.shaped b) = true
    · rw [if_pos c] at p
      have c' := Bool.and_eq_true_iff.mp c
      exact ⟨a, b, pdA_dp s.sc r1 ea, pdA_dp s.sc r2 eb, c'.1, c'.2, Post.ok_ p .refl s mk_bl⟩
    · rw [if_neg c] at p
      exact p.elim
  · exact p.elim
@[simp] def isNonV : Va → Bool
  | .d .non => true
  | _ => false
theorem isNon_rep {K : PySem.W.Frag} {Hs : Hp} {rh : List Addr} {x : Va} {v : V} (r : RepA K Hs rh x v) : decide (v = .non) = isNonV x := by
  cases x with
  | l n =>
    obtain ⟨a, _, rfl⟩ := r
    rfl
  | d x =>
    cases x with
    | non => rw [va_non r]; rfl
    | bl b => rw [va_bl r]; rfl
    | int b => rw [va_int r]; rfl
    | str b => rw [va_str r]; rfl
    | tup ds => have r' : Rep K Hs (.tup ds) v := r; simp only [Rep] at r'; obtain ⟨a, _, rfl, _⟩ := r'; rfl
    | lst ds => have r' : Rep K Hs (.lst ds) v := r; simp only [Rep] at r'; obtain ⟨a, _, rfl, _⟩ := r'; rfl
    | obj c fs => have r' : Rep K Hs (.obj c fs) v := r; simp only [Rep] at r'; obtain ⟨a, _, _, rfl, _⟩ := r'; rfl
    | dct ds => have r' : Rep K Hs (.dct ds) v := r; simp only [Rep] at r'; obtain ⟨a, _, _, rfl, _⟩ := r'; rfl
    | scr ns => have r' : Rep K Hs (.scr ns) v := r; simp only [Rep] at r'; obtain ⟨a, rfl, _⟩ := r'; rfl
    | ty n => have r' : Rep K Hs (.ty n) v := r; simp only [Rep] at r'; subst r'; rfl
    | cls n => have r' : Rep K Hs (.cls n) v := r; simp only [Rep] at r'; subst r'; rfl
    | exn a dd c x => have r' : Rep K Hs (.exn a dd c x) v := r; simp only [Rep] at r'; obtain ⟨rfl, _⟩ := r'; rfl
/-- x is None; x is not None -/
@[simp] def oIsN : Va → Va → Mu → R Va := fun x y m => match y with
  | .d .non => .ok (.d (.bl (isNonV x))) m
  | _ => .stuck
@[simp] def oNotN : Va → Va → Mu → R Va := fun x y m => match y with
  | .d .non => .ok (.d (.bl (!isNonV x))) m
  | _ => .stuck
theorem os_isN : OpS X (compareOp .Is) oIsN := by
  refine ⟨_, op_isN, fun W Hs H rh sg et m x y u v Q s r1 r2 p => ?_⟩
  unfold oIsN at p
  split at p
  · refine ⟨va_non r2, ?_⟩
    rw [isNon_rep r1]
    exact Post.ok_ p .refl s mk_bl
  · exact p.elim
theorem os_notN : OpS X (compareOp .IsNot) oNotN := by
  refine ⟨_, op_notN, fun W Hs H rh sg et m x y u v Q s r1 r2 p => ?_⟩
  unfold oNotN at p
  split at p
  · refine ⟨va_non r2, ?_⟩
    rw [isNon_rep r1]
    exact Post.ok_ p .refl s mk_bl
  · exact p.elim
/-- in, not in: a list or a tuple of data, a text in a text -/
@[simp] def inG (neg : Bool) (b : Bool) : Bool := if neg = true then !b else b
@[simp] def oInG (neg : Bool) : Va → Va → Mu → R Va := fun x y m => match pdA m x, pdA m y with
  | some a, some (.list ds) => if (SeqAt.shaped a && SeqAt.shaped (.list ds)) = true then .ok (.d (.bl (inG neg (ds.any fun z => PyData.eqv z a)))) m else .stuck
  | some a, some (.tuple ds) => if (SeqAt.shaped a && SeqAt.shaped (.tuple ds)) = true then .ok (.d (.bl (inG neg (ds.any fun z => PyData.eqv z a)))) m else .stuck
  | some (.str a), some (.str b) => .ok (.d (.bl (inG neg (!(Builtin.Str.occurrences b a 0 b.length 1).isEmpty)))) m
  | _, _ => .stuck
def rInT (K : PySem.W.Frag) (neg : Bool) : R2 := fun x y H Q => ∃ d ds, Dp K H x d ∧ Dp K H y (.tuple ds) ∧ SeqAt.shaped d = true ∧ SeqAt.shaped (.tuple ds) = true ∧ Q (.bl (inG neg (ds.any fun z => PyData.eqv z d))) H
theorem op_inT (hu : X.A.units + 65 < cLine) : OpR X (compareOp .In) (rInT X.K false) := by
  intro pins s σ H x y v u Q I rx ry h
  obtain ⟨d, ds, hd, he, sd, se, q⟩ := h
  obtain ⟨as, r1⟩ := Dp.reads I d x v hd rx
  obtain ⟨bs, r2⟩ := Dp.reads I (.tuple ds) y u he ry
  exact SeqAt.in_tuple_reads r2 r1 (SeqAt.canLay_of_shaped se) (SeqAt.canLay_of_shaped sd) (room_in_shaped sd hu) ⟨.bl _, H, I, rfl, q⟩
theorem op_notInT (hu : X.A.units + 65 < cLine) : OpR X (compareOp .NotIn) (rInT X.K true) := by
  intro pins s σ H x y v u Q I rx ry h
  obtain ⟨d, ds, hd, he, sd, se, q⟩ := h
  obtain ⟨as, r1⟩ := Dp.reads I d x v hd rx
  obtain ⟨bs, r2⟩ := Dp.reads I (.tuple ds) y u he ry
  exact SeqAt.notIn_tuple_reads r2 r1 (SeqAt.canLay_of_shaped se) (SeqAt.canLay_of_shaped sd) (room_in_shaped sd hu) ⟨.bl _, H, I, rfl, q⟩
theorem in_read {neg : Bool} {W : WX} {Hs H : Hp} {rh : List Addr} {sg : St2} {et : Env} {m : Mu} {x y : Va} {u v : V} {Q : VK} (s : SR X.K Hs H rh sg et m) (r1 : RepA X.K Hs rh x u) (r2 : RepA X.K Hs rh y v) (p : Post X.K W (RlA X.K) Hs H rh sg et Q (oInG neg x y m)) :
    (∃ d ds, Dp X.K H u d ∧ Dp X.K H v (.list ds) ∧ SeqAt.shaped d = true ∧ SeqAt.shaped (.list ds) = true ∧ Q (.bl (inG neg (ds.any fun z => PyData.eqv z d))) H) ∨ rInT X.K neg u v H Q ∨ (∃ i j, u = .str i ∧ v = .str j ∧ Q (.bl (inG neg (!(Builtin.Str.occurrences j i 0 j.length 1).isEmpty))) H) := by
  unfold oInG at p
  split at p
  · rename_i a ds ea eb
    by_cases c : (SeqAt.shaped a && SeqAt.shaped (.list ds)) = true
    · rw [if_pos c] at p
      have c' := Bool.and_eq_true_iff.mp c
      exact .inl ⟨a, ds, pdA_dp s.sc r1 ea, pdA_dp s.sc r2 eb, c'.1, c'.2, Post.ok_ p .refl s mk_bl⟩
    · rw [if_neg c] at p
      exact p.elim
  · rename_i a ds ea eb
    by_cases c : (SeqAt.shaped a && SeqAt.shaped (.tuple ds)) = true
    · rw [if_pos c] at p
      have c' := Bool.and_eq_true_iff.mp c
      exact .inr (.inl ⟨a, ds, pdA_dp s.sc r1 ea, pdA_dp s.sc r2 eb, c'.1, c'.2, Post.ok_ p .refl s mk_bl⟩)
    · rw [if_neg c] at p
      exact p.elim
  · rename_i a b ea eb
    have e1 : u = .str a := by
      have := pdA_dp s.sc r1 ea
      cases this
      rfl
    have e2 : v = .str b := by
      have := pdA_dp s.sc r2 eb
      cases this
      rfl
    exact .inr (.inr ⟨a, b, e1, e2, Post.ok_ p .refl s mk_bl⟩)
  · exact p.elim
abbrev oIn := oInG false
abbrev oNotIn := oInG true
theorem os_in (hu : X.A.units + 65 < cLine) : OpS X (compareOp .In) oIn := ⟨_, (op_inD hu).or ((op_inT hu).or op_in_str), fun W Hs H rh sg et m x y u v Q s r1 r2 p => in_read s r1 r2 p⟩
theorem os_notIn (hu : X.A.units + 65 < cLine) : OpS X (compareOp .NotIn) oNotIn := ⟨_, (op_notInD hu).or ((op_notInT hu).or op_notIn_str), fun W Hs H rh sg et m x y u v Q s r1 r2 p => in_read s r1 r2 p⟩
/-- a < b < c -/
@[simp] def xChain (o o' : Va → Va → Mu → R Va) (f g h : Env → Mu → R Va) : Env → Mu → R Va := fun et m => (f et m).bind fun x m => (g et m).bind fun y m => (o x y m).bind fun z m => (toB z m).bind fun b m => if b = true then (h et m).bind fun w m => o' y w m else .ok (.d (.bl false)) m
end
end DL
set_option maxHeartbeats 4000000
namespace DL
open PySem PySem.Spec PyProof.Rows L2
/-! ## Chains of comparisons -/
section
variable {X : Cx} {W : WX} {a b c e : Expr} {pos : Pos} {f g h : Env → Mu → R Va} {o o' : Va → Va → Mu → R Va}
theorem chain_read {ta tb tc : TE} {r r' : R2} (ra : ∀ Hs H rh sg et m Q, SR X.K Hs H rh sg et m → Post X.K W (RlA X.K) Hs H rh sg et Q (f et m) → ta sg H Q) (rb : ∀ Hs H rh sg et m Q, SR X.K Hs H rh sg et m → Post X.K W (RlA X.K) Hs H rh sg et Q (g et m) → tb sg H Q) (rc : ∀ Hs H rh sg et m Q, SR X.K Hs H rh sg et m → Post X.K W (RlA X.K) Hs H rh sg et Q (h et m) → tc sg H Q)
    {Hs H : Hp} {rh : List Addr} {sg : St2} {et : Env} {m : Mu} {Q : VK} (s : SR X.K Hs H rh sg et m) (ro : ∀ W Hs H rh sg et m x y u v Q, SR X.K Hs H rh sg et m → RepA X.K Hs rh x u → RepA X.K Hs rh y v → Post X.K W (RlA X.K) Hs H rh sg et Q (o x y m) → r u v H Q) (ro' : ∀ W Hs H rh sg et m x y u v Q, SR X.K Hs H rh sg et m → RepA X.K Hs rh x u → RepA X.K Hs rh y v → Post X.K W (RlA X.K) Hs H rh sg et Q (o' x y m) → r' u v H Q) (p : Post X.K W (RlA X.K) Hs H rh sg et Q (xChain o o' f g h et m)) : tChain r r' ta tb tc sg H Q := by
  unfold xChain at p
  refine ra Hs H rh sg et m _ s (Post.step p fun x m1 u Hs1 H1 rh1 x1 s1 r1 p1 => ?_)
  refine rb Hs1 H1 rh1 sg et m1 _ s1 (Post.step p1 fun y m2 v Hs2 H2 rh2 x2 s2 r2 p2 => ?_)
  refine ro W Hs2 H2 rh2 sg et m2 x y u v _ s2 (r1.ext x2) r2 (Post.step p2 fun z m3 t Hs3 H3 rh3 x3 s3 r3 p3 => ?_)
  rcases toB_cases (x := z) (m := m3) with ⟨k, rfl, e⟩ | e
  · rw [e] at p3
    refine ⟨k, va_bl r3, ?_⟩
    cases k with
    | false => exact iteF (Post.ok_ (m := m3) (d := Va.d (.bl false)) (by simpa [R.bind] using p3) .refl s3 mk_bl)
    | true =>
      have p4 : Post X.K W (RlA X.K) Hs3 H3 rh3 sg et Q ((h et m3).bind fun w m => o' y w m) := by simpa [R.bind] using p3
      refine iteT (rc Hs3 H3 rh3 sg et m3 _ s3 (Post.step p4 fun w m4 t4 Hs4 H4 rh4 x4 s4 r4 p5 => ?_))
      exact ro' W Hs4 H4 rh4 sg et m4 y w v t4 Q s4 (r2.ext (x3.trans x4)) r4 p5
  · rw [e] at p3
    exact p3.elim
theorem se_chain {op op' : CmpOp} (ho : OpS X (compareOp op) o) (ho' : OpS X (compareOp op') o') (ha : SE X W a f) (hb : SE X W b g) (hc : SE X W c h) (hm : lastMarks [op, op'] [b, c] = false := by with_unfolding_all rfl) : SE X W (.Compare a [op, op'] [b, c] pos) (xChain o o' f g h) := by
  obtain ⟨r, k, ro⟩ := ho
  obtain ⟨r', k', ro'⟩ := ho'
  obtain ⟨ta, ha, ra⟩ := ha
  obtain ⟨tb, hb, rb⟩ := hb
  obtain ⟨tc, hc, rc⟩ := hc
  exact ⟨_, pe_chain k k' ha hb hc hm, fun Hs H rh sg et m Q s p => chain_read ra rb rc s ro ro' p⟩
theorem st_chain {op op' : CmpOp} (ho : OpS X (compareOp op) o) (ho' : OpS X (compareOp op') o') (ha : SE X W a f) (hb : SE X W b g) (hc : SE X W c h) (hm : lastMarks [op, op'] [b, c] = false := by with_unfolding_all rfl) : ST X W (.Compare a [op, op'] [b, c] pos) (xTst (xChain o o' f g h)) := by
  obtain ⟨r, k, ro⟩ := ho
  obtain ⟨r', k', ro'⟩ := ho'
  obtain ⟨ta, ha, ra⟩ := ha
  obtain ⟨tb, hb, rb⟩ := hb
  obtain ⟨tc, hc, rc⟩ := hc
  exact ⟨_, pt_chain k k' ha hb hc hm, fun Hs H rh sg et m Q s p => toB_read (W := W) (te := tChain r r' ta tb tc) (f := xChain o o' f g h) (fun Hs H rh sg et m Q s p => chain_read ra rb rc s ro ro' p) s p⟩
end
/-! ## Fresh lists -/
section
variable {K : PySem.W.Frag} {Hs H Hs1 H1 : Hp} {rh rh1 : List Addr} {W : WX} {sg : St2} {et : Env} {m : Mu} {ds : List D} {v : V}
theorem RlF.frz (x : Ext Hs H rh Hs1 H1 rh1) (s : SR K Hs1 H1 rh1 sg et m) (r : RlF K H Hs1 H1 rh1 ds v) : ∃ Hs2, Ext Hs H rh Hs2 H1 rh1 ∧ SR K Hs2 H1 rh1 sg et m ∧ RepA K Hs2 rh1 (.d (.lst ds)) v := by
  obtain ⟨p, vs, rfl, h1, h2, h3, h4, h5⟩ := r
  have sm : Same Hs1 (upd Hs1 p (.lst vs)) := fun b u e => by rw [upd_ne (ne_of_none e h2)]; exact e
  have x2 : Ext Hs H rh (upd Hs1 p (.lst vs)) H1 rh1 := ⟨x.sub.trans sm, x.pre, x.keep, x.there, x.new, fun b hb => by
    by_cases e : b = p
    · exact .inr (.inl (by rw [e]; exact h1))
    · rw [upd_ne e] at hb
      exact x.froz b hb⟩
  refine ⟨_, x2, ⟨⟨fun b u e => ?_, s.sc.mlen, fun n c e => ?_, s.sc.nd, s.sc.old⟩, s.len, fun i d e => ?_⟩, ?_⟩
  · by_cases q : b = p
    · subst q
      rw [upd_same] at e
      cases e
      exact h4
    · rw [upd_ne q] at e
      exact s.sc.same b u e
  · obtain ⟨a, o, e1, e2, e3, e4⟩ := s.sc.cell n c e
    have ne : a ≠ p := fun z => h3 (by rw [← z]; exact List.mem_of_getElem? e1)
    exact ⟨a, o, e1, by rw [upd_ne ne]; exact e2, e3, e4.mono sm (List.prefix_refl _)⟩
  · obtain ⟨u, e1, e2⟩ := s.val i d e
    exact ⟨u, e1, e2.mono sm (List.prefix_refl _)⟩
  · show Rep K _ (.lst ds) (.ref p)
    simp only [Rep]
    exact ⟨p, vs, rfl, upd_same, h5.mono sm⟩
theorem RlF.cel (x : Ext Hs H rh Hs1 H1 rh1) (s : SR K Hs1 H1 rh1 sg et m) (r : RlF K H Hs1 H1 rh1 ds v) : ∃ rh2, Ext Hs H rh Hs1 H1 rh2 ∧ SR K Hs1 H1 rh2 sg et (m ++ [some (.lst ds)]) ∧ RepA K Hs1 rh2 (.l m.length) v := by
  obtain ⟨p, vs, rfl, h1, h2, h3, h4, h5⟩ := r
  have pf : rh1 <+: rh1 ++ [p] := List.prefix_append _ _
  have ml := s.sc.mlen
  have x2 : Ext Hs H rh Hs1 H1 (rh1 ++ [p]) := ⟨x.sub, x.pre.trans pf, x.keep, x.there, fun b hb => by
    rcases List.mem_append.mp hb with z | z
    · exact x.new b z
    · have e : b = p := by simpa using z
      exact .inr (by rw [e]; exact h1), x.froz⟩
  refine ⟨rh1 ++ [p], x2, ⟨⟨s.sc.same, by rw [List.length_append, List.length_append, ml]; rfl, fun n c e => ?_, ?_, fun a ha => ?_⟩, s.len, fun i d e => ?_⟩, ?_⟩
  · by_cases hn : n < m.length
    · rw [List.getElem?_append_left hn] at e
      obtain ⟨a, o, e1, e2, e3, e4⟩ := s.sc.cell n c e
      exact ⟨a, o, by rw [List.getElem?_append_left (by rw [← ml]; exact hn)]; exact e1, e2, e3, e4.mono (.refl _) pf⟩
    · have hl : n = m.length := by
        have q := (List.getElem?_eq_some_iff.mp e).1
        rw [List.length_append, List.length_singleton] at q
        omega
      subst hl
      rw [List.getElem?_concat_length] at e
      cases e
      exact ⟨p, _, by rw [ml]; simp, h2, h4, vs, rfl, h5⟩
  · rw [List.nodup_append]
    exact ⟨s.sc.nd, by simp, fun a ha b hb z => h3 (by simp at hb; rw [← hb, ← z]; exact ha)⟩
  · rcases List.mem_append.mp ha with z | z
    · exact s.sc.old a z
    · have e : a = p := by simpa using z
      rw [e, h4]
      exact fun z => nomatch z
  · obtain ⟨u, e1, e2⟩ := s.val i d e
    exact ⟨u, e1, e2.mono (.refl _) pf⟩
  · exact ⟨p, by rw [ml]; simp, rfl⟩
theorem RlF.new {vs : List V} (x : Ext Hs H rh Hs1 H1 rh1) (s : SR K Hs1 H1 rh1 sg et m) {p : Addr} (hp : H1 p = none) (r : Reps K Hs1 ds vs) : Ext Hs H rh Hs1 (upd H1 p (.lst vs)) rh1 ∧ SR K Hs1 (upd H1 p (.lst vs)) rh1 sg et m ∧ RlF K H Hs1 (upd H1 p (.lst vs)) rh1 ds (.ref p) := by
  have hs1 : Hs1 p = none := s.sc.same.free hp
  have h0 : H p = none := Classical.byContradiction fun z => x.there p z hp
  have hr : p ∉ rh1 := fun z => s.sc.old p z hp
  refine ⟨⟨x.sub, x.pre, fun b o e n => by rw [upd_ne (fun z => by rw [z, h0] at e; cases e)]; exact x.keep b o e n, fun b hb => ?_, x.new, x.froz⟩, ⟨⟨fun b u e => by rw [upd_ne (ne_of_none (s.sc.same b u e) hp)]; exact s.sc.same b u e, s.sc.mlen, fun n c e => ?_, s.sc.nd, fun a ha => ?_⟩, s.len, s.val⟩, p, vs, rfl, h0, hs1, hr, upd_same, r⟩
  · by_cases q : b = p
    · rw [q, upd_same]
      exact fun z => nomatch z
    · rw [upd_ne q]
      exact x.there b hb
  · obtain ⟨a, o, e1, e2, e3, e4⟩ := s.sc.cell n c e
    exact ⟨a, o, e1, e2, by rw [upd_ne (ne_of_none e3 hp)]; exact e3, e4⟩
  · by_cases q : a = p
    · rw [q, upd_same]
      exact fun z => nomatch z
    · rw [upd_ne q]
      exact s.sc.old a ha
theorem Post.lstNew {H0 Hs0 : Hp} {rh0 : List Addr} {Q : VK} {vs : List V} (x : Ext Hs0 H0 rh0 Hs H rh) (s : SR K Hs H rh sg et m) (r : Reps K Hs ds vs) (p : Post K W (RlF K H0) Hs H rh sg et Q (.ok ds m)) : ∀ a, H a = none → Q (.ref a) (upd H a (.lst vs)) := fun a ha => by
  obtain ⟨h1, h2, _⟩ := RlF.new (H := H) (Hs := Hs) (rh := rh) .refl s ha r
  obtain ⟨_, _, h3⟩ := RlF.new x s ha r
  exact p (.ref a) _ _ _ h1 h2 h3
end
@[simp] def xFrz (f : Env → Mu → R (List D)) : Env → Mu → R Va := fun et m => (f et m).bind fun ds m => .ok (.d (.lst ds)) m
@[simp] def xCel (f : Env → Mu → R (List D)) : Env → Mu → R Va := fun et m => (f et m).bind fun ds m => .ok (.l m.length) (m ++ [some (.lst ds)])
section
variable {X : Cx} {W : WX} {a b e : Expr} {es : List Expr} {pos : Pos} {f g : Env → Mu → R Va} {fl : Env → Mu → R (List D)} {fa : Env → Mu → R (List Va)}
theorem sf_frz (h : SF X W e fl) : SE X W e (xFrz fl) := by
  obtain ⟨t, h, r⟩ := h
  refine ⟨t, h, fun Hs H rh sg et m Q s p => r Hs H rh sg et m Q s ?_⟩
  unfold xFrz at p
  refine Post.stepS p fun ds m1 v Hs1 H1 rh1 x1 s1 r1 p1 => ?_
  obtain ⟨Hs2, x2, s2, r2⟩ := RlF.frz x1 s1 r1
  exact p1 v Hs2 H1 rh1 x2 s2 r2
theorem sf_cel (h : SF X W e fl) : SE X W e (xCel fl) := by
  obtain ⟨t, h, r⟩ := h
  refine ⟨t, h, fun Hs H rh sg et m Q s p => r Hs H rh sg et m Q s ?_⟩
  unfold xCel at p
  refine Post.stepS p fun ds m1 v Hs1 H1 rh1 x1 s1 r1 p1 => ?_
  obtain ⟨rh2, x2, s2, r2⟩ := RlF.cel x1 s1 r1
  exact p1 v Hs1 H1 rh2 x2 s2 r2
/-! displays -/
@[simp] def xLst (fa : Env → Mu → R (List Va)) : Env → Mu → R (List D) := fun et m => (fa et m).bind fun as m => match datas as with
  | some ds => if ds.length ≤ sizeLine then .ok ds m else .stuck
  | none => .stuck
theorem sf_lst (h : SA X W es fa) : SF X W (.List es pos) (xLst fa) := by
  obtain ⟨t, h, r⟩ := h
  refine ⟨_, pe_lst h, fun Hs H rh sg et m Q s p => ?_⟩
  unfold xLst at p
  refine r Hs H rh sg et m _ s (Post.step p fun as m1 vs Hs1 H1 rh1 x1 s1 r1 p1 => ?_)
  cases q : datas as with
  | none => rw [q] at p1; exact p1.elim
  | some ds =>
    rw [q] at p1
    dsimp only at p1
    have rd := reps_datas r1 q
    by_cases c : ds.length ≤ sizeLine
    · rw [if_pos c] at p1
      exact ⟨by rw [rd.length]; exact c, Post.lstNew x1 s1 rd p1⟩
    · rw [if_neg c] at p1
      exact p1.elim
@[simp] def xTup (fa : Env → Mu → R (List Va)) : Env → Mu → R Va := fun et m => (fa et m).bind fun as m => match datas as with
  | some ds => if ds.length ≤ sizeLine then .ok (.d (.tup ds)) m else .stuck
  | none => .stuck
theorem se_tup {k : Nat} (h : SA X W es fa) : SE X W (.Tuple es k pos) (xTup fa) := by
  obtain ⟨t, h, r⟩ := h
  refine ⟨_, pe_tup h, fun Hs H rh sg et m Q s p => ?_⟩
  unfold xTup at p
  refine r Hs H rh sg et m _ s (Post.step p fun as m1 vs Hs1 H1 rh1 x1 s1 r1 p1 => ?_)
  cases q : datas as with
  | none => rw [q] at p1; exact p1.elim
  | some ds =>
    rw [q] at p1
    dsimp only at p1
    have rd := reps_datas r1 q
    by_cases c : ds.length ≤ sizeLine
    · rw [if_pos c] at p1
      exact ⟨by rw [rd.length]; exact c, Post.tupNew s1 rd p1⟩
    · rw [if_neg c] at p1
      exact p1.elim
/-! xs + ys -/
@[simp] def noScr : Va → Bool
  | .d (.scr _) => false
  | _ => true
theorem noScr_ne {x : Va} (h : noScr x = true) : ∀ z, x ≠ .d (.scr z) := fun z e => by rw [e] at h; cases h
@[simp] def xCat (f g : Env → Mu → R Va) : Env → Mu → R (List D) := fun et m => (f et m).bind fun x m1 => (g et m1).bind fun y m => match asL m x, asL m y with
  | some a, some b => if (noScr x && noScr y && decide (a.length + b.length ≤ sizeLine)) = true then .ok (a ++ b) m else .stuck
  | _, _ => .stuck
theorem sf_cat (ha : SE X W a f) (hb : SE X W b g) : SF X W (.BinOp a .Add b pos) (xCat f g) := by
  obtain ⟨ta, ha, ra⟩ := ha
  obtain ⟨tb, hb, rb⟩ := hb
  refine ⟨_, pe_op op_cat ha hb, fun Hs H rh sg et m Q s p => ?_⟩
  unfold xCat at p
  refine ra Hs H rh sg et m _ s (Post.step p fun x m1 u Hs1 H1 rh1 x1 s1 r1 p1 => ?_)
  refine rb Hs1 H1 rh1 sg et m1 _ s1 (Post.step p1 fun y m2 v Hs2 H2 rh2 x2 s2 r2 p2 => ?_)
  split at p2
  · rename_i ds es e1 e2
    by_cases c : (noScr x && noScr y && decide (ds.length + es.length ≤ sizeLine)) = true
    · rw [if_pos c] at p2
      have c1 := Bool.and_eq_true_iff.mp c
      have c2 := Bool.and_eq_true_iff.mp c1.1
      obtain ⟨a1, us, rfl, q1, h1⟩ := asL_at s2.sc (r1.ext x2) e1 (noScr_ne c2.1)
      obtain ⟨a2, vs, rfl, q2, h2⟩ := asL_at s2.sc r2 e2 (noScr_ne c2.2)
      exact ⟨a1, a2, us, vs, rfl, rfl, q1, q2, by rw [h1.length, h2.length]; exact of_decide_eq_true c1.2, Post.lstNew (x1.trans x2) s2 (h1.append h2) p2⟩
    · rw [if_neg c] at p2
      exact p2.elim
  · exact p2.elim
/-! xs[i], t[i], s[i] -/
@[simp] def asStr : Va → Option Str
  | .d (.str x) => some x
  | _ => none
@[simp] def oIx : Va → Va → Mu → R Va := fun x y m => match y with
  | .d (.int i) => (match asL m x, asT x, asStr x with
    | some ds, _, _ => (match atI ds i with
      | some d => .ok (.d d) m
      | none => .stuck)
    | _, some ds, _ => (match atI ds i with
      | some d => .ok (.d d) m
      | none => .stuck)
    | _, _, some z => if z.length ≤ sizeLine then (match atI z.cps.toList i with
      | some c => .ok (.d (.str ⟨#[c]⟩)) m
      | none => .stuck) else .stuck
    | _, _, _ => .stuck)
  | _ => .stuck
theorem atI_reps {K : PySem.W.Frag} {Hs : Hp} {ds : List D} {vs : List V} {i : Int} {d : D} (r : Reps K Hs ds vs) (e : atI ds i = some d) : ∃ v, atI vs i = some v ∧ Rep K Hs d v := by
  unfold atI at e ⊢
  rw [r.length]
  cases q : ixN ds.length i with
  | none => rw [q] at e; cases e
  | some j =>
    rw [q] at e
    exact r.get e
theorem ix_read {W : WX} {Hs H : Hp} {rh : List Addr} {sg : St2} {et : Env} {m : Mu} {x y : Va} {u v : V} {Q : VK} (s : SR X.K Hs H rh sg et m) (r1 : RepA X.K Hs rh x u) (r2 : RepA X.K Hs rh y v) (p : Post X.K W (RlA X.K) Hs H rh sg et Q (oIx x y m)) : rIxL X.K u v H Q ∨ rIxT X.K u v H Q ∨ rIxS u v H Q := by
  unfold oIx at p
  split at p
  · rename_i i
    split at p
    · rename_i ds e1
      obtain ⟨a, vs, rfl, q1, h1⟩ := asL_rd s.sc r1 e1
      split at p
      · rename_i d e2
        obtain ⟨w, e3, h2⟩ := atI_reps h1 e2
        exact .inl ⟨a, vs, i, w, rfl, va_int r2, q1, e3, p w Hs H rh .refl s h2⟩
      · exact p.elim
    · rename_i ds e1 _
      obtain ⟨a, vs, rfl, q1, h1⟩ := asT_rd s.sc r1 e1
      split at p
      · rename_i d e2
        obtain ⟨w, e3, h2⟩ := atI_reps h1 e2
        exact .inr (.inl ⟨a, vs, i, w, rfl, va_int r2, q1, e3, p w Hs H rh .refl s h2⟩)
      · exact p.elim
    · rename_i z e1 _ _
      have ex : x = .d (.str z) := by
        cases x with
        | l n => cases e1
        | d x =>
          cases x with
          | str z' => cases e1; rfl
          | _ => cases e1
      subst ex
      by_cases c : z.length ≤ sizeLine
      · rw [if_pos c] at p
        split at p
        · rename_i d e2
          exact .inr (.inr ⟨z, i, d, va_str r1, va_int r2, c, e2, Post.ok_ p .refl s mk_str⟩)
        · exact p.elim
      · rw [if_neg c] at p
        exact p.elim
    · exact p.elim
  · exact p.elim
theorem se_ix (ha : SE X W a f) (hb : SE X W b g) (hs : PlainIx b) : SE X W (.Subscript a b pos) (xBin oIx f g) := by
  obtain ⟨ta, ha, ra⟩ := ha
  obtain ⟨tb, hb, rb⟩ := hb
  exact ⟨_, pe_ix ix_seq ha hb hs, fun Hs H rh sg et m Q s p => bin_read (r := rIx X.K) ra rb s (fun W Hs H rh sg et m x y u v Q s r1 r2 p => ix_read s r1 r2 p) p⟩
/-! slices -/
def SO (X : Cx) (W : WX) (e : Option Expr) (f : Env → Mu → R (Option Int)) : Prop := ∃ t, PO X e t ∧ ∀ Hs H rh sg et m (Q : Option Int → Hp → Prop), SR X.K Hs H rh sg et m → Post X.K W (fun _ _ _ a b => a = b) Hs H rh sg et Q (f et m) → t sg H Q
@[simp] def xNoPart : Env → Mu → R (Option Int) := fun _ m => .ok none m
@[simp] def xPart (f : Env → Mu → R Va) : Env → Mu → R (Option Int) := fun et m => (f et m).bind fun x m => match x with
  | .d (.int i) => .ok (some i) m
  | _ => .stuck
theorem so_none : SO X W none xNoPart := ⟨_, po_none, fun Hs H rh sg et m Q s p => Post.ok_ p .refl s rfl⟩
theorem so_some (h : SE X W e f) : SO X W (some e) (xPart f) := by
  obtain ⟨t, h, r⟩ := h
  refine ⟨_, po_some h, fun Hs H rh sg et m Q s p => r Hs H rh sg et m _ s (Post.step p fun x m1 v Hs1 H1 rh1 x1 s1 r1 p1 => ?_)⟩
  split at p1
  · exact ⟨_, va_int r1, Post.ok_ p1 .refl s1 rfl⟩
  · exact p1.elim
def cutD (xs : List D) (lo hi : Option Int) : List D := (xs.drop (HT.sIx xs.length 0 lo)).take (HT.sIx xs.length xs.length hi - HT.sIx xs.length 0 lo)
theorem reps_cut {K : PySem.W.Frag} {Hs : Hp} {ds : List D} {vs : List V} (r : Reps K Hs ds vs) (lo hi : Option Int) : Reps K Hs (cutD ds lo hi) (cutV vs lo hi) := by
  unfold cutD cutV
  rw [r.length]
  exact (r.drop _).take _
variable {lo hi : Option Expr} {p2 : Pos} {fo fh : Env → Mu → R (Option Int)}
/-- a list's slice -/
@[simp] def xSlL (f : Env → Mu → R Va) (fo fh : Env → Mu → R (Option Int)) : Env → Mu → R (List D) := fun et m => (f et m).bind fun x m => (fo et m).bind fun l m => (fh et m).bind fun u m => match asL m x with
  | some ds => .ok (cutD ds l u) m
  | none => .stuck
theorem sf_slice (he : SE X W e f) (hl : SO X W lo fo) (hu : SO X W hi fh) : SF X W (.Subscript e (.Slice lo hi none p2) pos) (xSlL f fo fh) := by
  obtain ⟨te, he, re⟩ := he
  obtain ⟨tl, hl, rl⟩ := hl
  obtain ⟨tu, hu, ru⟩ := hu
  refine ⟨_, pe_slice sl_list he hl hu, fun Hs H rh sg et m Q s p => ?_⟩
  unfold xSlL at p
  refine re Hs H rh sg et m _ s (Post.step p fun x m1 u Hs1 H1 rh1 x1 s1 r1 p1 => ?_)
  refine rl Hs1 H1 rh1 sg et m1 _ s1 (Post.step p1 fun l m2 l' Hs2 H2 rh2 x2 s2 r2 p2 => ?_)
  refine ru Hs2 H2 rh2 sg et m2 _ s2 (Post.step p2 fun k m3 k' Hs3 H3 rh3 x3 s3 r3 p3 => ?_)
  have e1 : l = l' := r2
  have e2 : k = k' := r3
  subst e1 e2
  split at p3
  · rename_i ds e1
    obtain ⟨a, vs, rfl, q1, h1⟩ := asL_rd s3.sc (r1.ext (x2.trans x3)) e1
    exact ⟨a, vs, rfl, q1, Post.lstNew (x1.trans (x2.trans x3)) s3 (reps_cut h1 l k) p3⟩
  · exact p3.elim
/-- a tuple's, a text's -/
@[simp] def xSl (f : Env → Mu → R Va) (fo fh : Env → Mu → R (Option Int)) : Env → Mu → R Va := fun et m => (f et m).bind fun x m => (fo et m).bind fun l m => (fh et m).bind fun u m => match x with
  | .d (.tup ds) => .ok (.d (.tup (cutD ds l u))) m
  | .d (.str z) => if z.length ≤ sizeLine then .ok (.d (.str (cutS z l u))) m else .stuck
  | _ => .stuck
theorem se_slice (he : SE X W e f) (hl : SO X W lo fo) (hu : SO X W hi fh) : SE X W (.Subscript e (.Slice lo hi none p2) pos) (xSl f fo fh) := by
  obtain ⟨te, he, re⟩ := he
  obtain ⟨tl, hl, rl⟩ := hl
  obtain ⟨tu, hu, ru⟩ := hu
  refine ⟨_, pe_slice (sl_tupA.or sl_str) he hl hu, fun Hs H rh sg et m Q s p => ?_⟩
  unfold xSl at p
  refine re Hs H rh sg et m _ s (Post.step p fun x m1 u Hs1 H1 rh1 x1 s1 r1 p1 => ?_)
  refine rl Hs1 H1 rh1 sg et m1 _ s1 (Post.step p1 fun l m2 l' Hs2 H2 rh2 x2 s2 r2 p2 => ?_)
  refine ru Hs2 H2 rh2 sg et m2 _ s2 (Post.step p2 fun k m3 k' Hs3 H3 rh3 x3 s3 r3 p3 => ?_)
  have e1 : l = l' := r2
  have e2 : k = k' := r3
  subst e1 e2
  have r1' := r1.ext (x2.trans x3)
  split at p3
  · rename_i ds
    obtain ⟨a, vs, rfl, q1, h1⟩ := asT_rd s3.sc r1' rfl
    refine .inl ⟨a, vs, rfl, q1, fun w => ?_, fun _ => Post.tupNew s3 (reps_cut h1 l k) p3⟩
    have ec : cutD ds l k = ds := by
      unfold cutD
      rw [← h1.length, w.1, w.2, h1.length]
      simp
    rw [ec] at p3
    exact p3 (.ref a) Hs3 H3 rh3 .refl s3 r1'
  · rename_i z
    by_cases c : z.length ≤ sizeLine
    · rw [if_pos c] at p3
      exact .inr ⟨z, va_str r1', c, Post.ok_ p3 .refl s3 mk_str⟩
    · rw [if_neg c] at p3
      exact p3.elim
  · exact p3.elim
end
end DL
set_option maxHeartbeats 4000000
namespace DL
open PySem PySem.Spec PyProof.Rows L2
/-! ## Built-ins -/
def CalS (X : Cx) (f : Value) (o : List Va → Mu → R Va) : Prop := ∃ r, CallR X f r ∧ ∀ W Hs H rh sg et m as vs Q, SR X.K Hs H rh sg et m → RepAs X.K Hs rh as vs → Post X.K W (RlA X.K) Hs H rh sg et Q (o as m) → r vs H Q
def CalF (X : Cx) (f : Value) (o : List Va → Mu → R (List D)) : Prop := ∃ r, CallR X f r ∧ ∀ W Hs0 H0 rh0 Hs H rh sg et m as vs Q, Ext Hs0 H0 rh0 Hs H rh → SR X.K Hs H rh sg et m → RepAs X.K Hs rh as vs → Post X.K W (RlF X.K H0) Hs H rh sg et Q (o as m) → r vs H Q
@[simp] def xCB (o : List Va → Mu → R Va) (fa : Env → Mu → R (List Va)) : Env → Mu → R Va := fun et m => (fa et m).bind o
@[simp] def xCF (o : List Va → Mu → R (List D)) (fa : Env → Mu → R (List Va)) : Env → Mu → R (List D) := fun et m => (fa et m).bind o
section
variable {X : Cx} {W : WX} {e : Expr} {es : List Expr} {x : Str} {p pos : Pos} {fa : Env → Mu → R (List Va)} {o : List Va → Mu → R Va} {ol : List Va → Mu → R (List D)} {id T : String}
theorem se_cb (hc : CalS X (.builtin id) o) (hg : Gl X x) (hm : X.mg x = none) (hv : bootBuiltins x = some (.builtin id)) (ha : SA X W (e :: es) fa) (hn : x ≠ "__name__" := by decide) (hdb : (x == ("__debug__" : Str)) = false := by decide)
    (he : starEach (e :: es) X.env = (false, eval e X.env) :: starEach es X.env := by rfl) (hpl : (backTo pos (starEach es X.env)).any (·.1) = false := by rfl) : SE X W (.Call (.Name x p) (e :: es) [] pos) (xCB o fa) := by
  obtain ⟨r, h, ro⟩ := hc
  obtain ⟨t, h', ra⟩ := ha
  exact ⟨_, pe_callB h hg hm hv h' hn hdb he hpl, fun Hs H rh sg et m Q s z => ra Hs H rh sg et m _ s (Post.step z fun as m1 vs Hs1 H1 rh1 x1 s1 r1 p1 => ro W Hs1 H1 rh1 sg et m1 as vs Q s1 r1 p1)⟩
theorem se_ct (hc : CalS X (.type T) o) (hg : Gl X x) (hm : X.mg x = none) (hv : bootBuiltins x = some (.type T)) (ha : SA X W (e :: es) fa) (hn : x ≠ "__name__" := by decide) (hdb : (x == ("__debug__" : Str)) = false := by decide)
    (he : starEach (e :: es) X.env = (false, eval e X.env) :: starEach es X.env := by rfl) (hpl : (backTo pos (starEach es X.env)).any (·.1) = false := by rfl) : SE X W (.Call (.Name x p) (e :: es) [] pos) (xCB o fa) := by
  obtain ⟨r, h, ro⟩ := hc
  obtain ⟨t, h', ra⟩ := ha
  exact ⟨_, pe_callTy h hg hm hv h' hn hdb he hpl, fun Hs H rh sg et m Q s z => ra Hs H rh sg et m _ s (Post.step z fun as m1 vs Hs1 H1 rh1 x1 s1 r1 p1 => ro W Hs1 H1 rh1 sg et m1 as vs Q s1 r1 p1)⟩
theorem sf_ct (hc : CalF X (.type T) ol) (hg : Gl X x) (hm : X.mg x = none) (hv : bootBuiltins x = some (.type T)) (ha : SA X W (e :: es) fa) (hn : x ≠ "__name__" := by decide) (hdb : (x == ("__debug__" : Str)) = false := by decide)
    (he : starEach (e :: es) X.env = (false, eval e X.env) :: starEach es X.env := by rfl) (hpl : (backTo pos (starEach es X.env)).any (·.1) = false := by rfl) : SF X W (.Call (.Name x p) (e :: es) [] pos) (xCF ol fa) := by
  obtain ⟨r, h, ro⟩ := hc
  obtain ⟨t, h', ra⟩ := ha
  exact ⟨_, pe_callTy h hg hm hv h' hn hdb he hpl, fun Hs H rh sg et m Q s z => ra Hs H rh sg et m _ s (Post.step z fun as m1 vs Hs1 H1 rh1 x1 s1 r1 p1 => ro W Hs H rh Hs1 H1 rh1 sg et m1 as vs Q x1 s1 r1 p1)⟩
/-- arguments one by one -/
theorem as1 {K : PySem.W.Frag} {Hs : Hp} {rh : List Addr} {a : Va} {vs : List V} (h : RepAs K Hs rh [a] vs) : ∃ v, vs = [v] ∧ RepA K Hs rh a v := by
  obtain ⟨v, r, e, h1, h2⟩ := h
  exact ⟨v, by rw [e, show r = [] from h2], h1⟩
theorem as2 {K : PySem.W.Frag} {Hs : Hp} {rh : List Addr} {a b : Va} {vs : List V} (h : RepAs K Hs rh [a, b] vs) : ∃ v u, vs = [v, u] ∧ RepA K Hs rh a v ∧ RepA K Hs rh b u := by
  obtain ⟨v, r, e, h1, h2⟩ := h
  obtain ⟨u, e2, h3⟩ := as1 h2
  exact ⟨v, u, by rw [e, e2], h1, h3⟩
theorem CallR.or {f : Value} {r r' : List V → Hp → VK → Prop} (h : CallR X f r) (h' : CallR X f r') : CallR X f (fun x H Q => r x H Q ∨ r' x H Q) := by
  intro pins s σ H xs us Q I rx q
  rcases q with q | q
  · exact h pins s σ H xs us Q I rx q
  · exact h' pins s σ H xs us Q I rx q
/-- len -/
@[simp] def lenA (m : Mu) (x : Va) : Option Nat := match asL m x, asT x, asStr x with
  | some ds, _, _ => some ds.length
  | _, some ds, _ => some ds.length
  | _, _, some z => if z.length ≤ sizeLine then some z.length else none
  | _, _, _ => none
@[simp] def oLen : List Va → Mu → R Va := fun as m => match as with
  | [x] => (match lenA m x with
    | some n => .ok (.d (.int n)) m
    | none => .stuck)
  | _ => .stuck
theorem lenA_rd {K : PySem.W.Frag} {Hs H : Hp} {rh : List Addr} {m : Mu} {x : Va} {v : V} {n : Nat} (s : SC K Hs H rh m) (r : RepA K Hs rh x v) (e : lenA m x = some n) : LenV K v H n := by
  unfold lenA at e
  split at e
  · rename_i ds e1
    cases e
    obtain ⟨a, vs, rfl, q, h⟩ := asL_rd s r e1
    exact .inl ⟨vs, q, h.length.symm⟩
  · rename_i ds e1 _
    cases e
    obtain ⟨a, vs, rfl, q, h⟩ := asT_rd s r e1
    exact .inr ⟨vs, q, h.length.symm⟩
  · rename_i z e1 _ _
    have ex : x = .d (.str z) := by
      cases x with
      | l n => cases e1
      | d x =>
        cases x with
        | str z' => cases e1; rfl
        | _ => cases e1
    subst ex
    rw [va_str r]
    by_cases c : z.length ≤ sizeLine
    · rw [if_pos c] at e
      cases e
      exact ⟨c, rfl⟩
    · rw [if_neg c] at e
      cases e
  · cases e
theorem cs_len : CalS X (.builtin "len") oLen := by
  refine ⟨_, call_len, fun W Hs H rh sg et m as vs Q s r p => ?_⟩
  unfold oLen at p
  split at p
  · rename_i x
    obtain ⟨v, rfl, r1⟩ := as1 r
    cases q : lenA m x with
    | none => rw [q] at p; exact p.elim
    | some n =>
      rw [q] at p
      exact ⟨v, n, rfl, lenA_rd s.sc r1 q, Post.ok_ p .refl s mk_int⟩
  · exact p.elim
/-- int(n), int(flag) -/
@[simp] def oInt : List Va → Mu → R Va := fun as m => match as with
  | [.d (.int i)] => .ok (.d (.int i)) m
  | [.d (.bl k)] => .ok (.d (.int (if k then 1 else 0))) m
  | _ => .stuck
theorem cs_int : CalS X (.type "int") oInt := by
  refine ⟨_, call_int1, fun W Hs H rh sg et m as vs Q s r p => ?_⟩
  unfold oInt at p
  split at p
  · obtain ⟨v, rfl, r1⟩ := as1 r
    exact .inl ⟨_, by rw [va_int r1], Post.ok_ p .refl s mk_int⟩
  · obtain ⟨v, rfl, r1⟩ := as1 r
    exact .inr ⟨_, by rw [va_bl r1], Post.ok_ p .refl s mk_int⟩
  · exact p.elim
@[simp] def oAbs : List Va → Mu → R Va := fun as m => match as with
  | [.d (.int i)] => .ok (.d (.int (if i < 0 then -i else i))) m
  | _ => .stuck
theorem cs_abs : CalS X (.builtin "abs") oAbs := by
  refine ⟨_, call_abs, fun W Hs H rh sg et m as vs Q s r p => ?_⟩
  unfold oAbs at p
  split at p
  · obtain ⟨v, rfl, r1⟩ := as1 r
    exact ⟨_, by rw [va_int r1], Post.ok_ p .refl s mk_int⟩
  · exact p.elim
@[simp] def oMax : List Va → Mu → R Va := fun as m => match as with
  | [.d (.int i), .d (.int j)] => .ok (.d (.int (if j > i then j else i))) m
  | _ => .stuck
@[simp] def oMin : List Va → Mu → R Va := fun as m => match as with
  | [.d (.int i), .d (.int j)] => .ok (.d (.int (if j < i then j else i))) m
  | _ => .stuck
theorem cs_max (hc : X.calm = true) : CalS X (.builtin "max") oMax := by
  refine ⟨_, call_max2 hc, fun W Hs H rh sg et m as vs Q s r p => ?_⟩
  unfold oMax at p
  split at p
  · obtain ⟨v, u, rfl, r1, r2⟩ := as2 r
    exact ⟨_, _, by rw [va_int r1, va_int r2], Post.ok_ p .refl s mk_int⟩
  · exact p.elim
theorem cs_min (hc : X.calm = true) : CalS X (.builtin "min") oMin := by
  refine ⟨_, call_min2 hc, fun W Hs H rh sg et m as vs Q s r p => ?_⟩
  unfold oMin at p
  split at p
  · obtain ⟨v, u, rfl, r1, r2⟩ := as2 r
    exact ⟨_, _, by rw [va_int r1, va_int r2], Post.ok_ p .refl s mk_int⟩
  · exact p.elim
/-- any, all: a list of truth values -/
@[simp] def blsOf : List D → Option (List Bool)
  | [] => some []
  | .bl b :: r => (blsOf r).map (b :: ·)
  | _ :: _ => none
theorem bls_rd {K : PySem.W.Frag} {Hs : Hp} : ∀ {ds : List D} {vs : List V} {bs : List Bool}, Reps K Hs ds vs → blsOf ds = some bs → vs = bs.map V.bl
  | [], vs, bs, h, e => by
    cases e
    exact reps_nil.mp h
  | d :: r, vs, bs, h, e => by
    simp only [Reps] at h
    obtain ⟨v, r', rfl, h1, h2⟩ := h
    cases d with
    | bl b =>
      have e' : (blsOf r).map (b :: ·) = some bs := e
      cases q : blsOf r with
      | none => rw [q] at e'; cases e'
      | some bs' =>
        rw [q] at e'
        cases e'
        rw [rep_bl h1, bls_rd h2 q]
        rfl
    | _ => cases e
@[simp] def oAny : List Va → Mu → R Va := fun as m => match as with
  | [x] => (match (asL m x).bind blsOf with
    | some bs => .ok (.d (.bl (bs.any fun b => b))) m
    | none => .stuck)
  | _ => .stuck
@[simp] def oAll : List Va → Mu → R Va := fun as m => match as with
  | [x] => (match (asL m x).bind blsOf with
    | some bs => .ok (.d (.bl (bs.all fun b => b))) m
    | none => .stuck)
  | _ => .stuck
theorem bls_at {K : PySem.W.Frag} {Hs H : Hp} {rh : List Addr} {m : Mu} {x : Va} {v : V} {bs : List Bool} (s : SC K Hs H rh m) (r : RepA K Hs rh x v) (e : (asL m x).bind blsOf = some bs) : ∃ a, v = .ref a ∧ SqL K H a (bs.map V.bl) := by
  cases q : asL m x with
  | none => rw [q] at e; cases e
  | some ds =>
    rw [q] at e
    obtain ⟨a, vs, rfl, q1, h⟩ := asL_rd s r q
    rw [bls_rd h e] at q1
    exact ⟨a, rfl, q1⟩
theorem cs_any (hc : X.calm = true) : CalS X (.builtin "any") oAny := by
  refine ⟨_, cr_any hc, fun W Hs H rh sg et m as vs Q s r p => ?_⟩
  unfold oAny at p
  split at p
  · obtain ⟨v, rfl, r1⟩ := as1 r
    split at p
    · rename_i bs e
      obtain ⟨a, rfl, q1⟩ := bls_at s.sc r1 e
      exact ⟨a, bs, rfl, q1, Post.ok_ p .refl s mk_bl⟩
    · exact p.elim
  · exact p.elim
theorem cs_all (hc : X.calm = true) : CalS X (.builtin "all") oAll := by
  refine ⟨_, cr_all hc, fun W Hs H rh sg et m as vs Q s r p => ?_⟩
  unfold oAll at p
  split at p
  · obtain ⟨v, rfl, r1⟩ := as1 r
    split at p
    · rename_i bs e
      obtain ⟨a, rfl, q1⟩ := bls_at s.sc r1 e
      exact ⟨a, bs, rfl, q1, Post.ok_ p .refl s mk_bl⟩
    · exact p.elim
  · exact p.elim
/-- tuple(xs), tuple(t) -/
@[simp] def oTuple : List Va → Mu → R Va := fun as m => match as with
  | [x] => (match asL m x, asT x with
    | some ds, _ => .ok (.d (.tup ds)) m
    | _, some ds => .ok x m
    | _, _ => .stuck)
  | _ => .stuck
theorem cs_tuple : CalS X (.type "tuple") oTuple := by
  refine ⟨_, call_tuple_of, fun W Hs H rh sg et m as vs Q s r p => ?_⟩
  unfold oTuple at p
  split at p
  · obtain ⟨v, rfl, r1⟩ := as1 r
    split at p
    · rename_i ds e
      obtain ⟨a, us, rfl, q1, h⟩ := asL_rd s.sc r1 e
      exact ⟨a, us, rfl, .inl ⟨q1, Post.tupNew s h p⟩⟩
    · rename_i ds e _
      obtain ⟨a, us, rfl, q1, h⟩ := asT_rd s.sc r1 e
      exact ⟨a, us, rfl, .inr ⟨q1, Post.ok_ p .refl s r1⟩⟩
    · exact p.elim
  · exact p.elim
/-- list(xs), list(t) -/
@[simp] def oList : List Va → Mu → R (List D) := fun as m => match as with
  | [x] => (match asL m x, asT x with
    | some ds, _ => .ok ds m
    | _, some ds => .ok ds m
    | _, _ => .stuck)
  | _ => .stuck
theorem cf_list : CalF X (.type "list") oList := by
  refine ⟨_, call_list_of, fun W Hs0 H0 rh0 Hs H rh sg et m as vs Q x0 s r p => ?_⟩
  unfold oList at p
  split at p
  · obtain ⟨v, rfl, r1⟩ := as1 r
    split at p
    · rename_i ds e
      obtain ⟨a, us, rfl, q1, h⟩ := asL_rd s.sc r1 e
      exact ⟨a, us, rfl, .inl q1, Post.lstNew x0 s h p⟩
    · rename_i ds e _
      obtain ⟨a, us, rfl, q1, h⟩ := asT_rd s.sc r1 e
      exact ⟨a, us, rfl, .inr q1, Post.lstNew x0 s h p⟩
    · exact p.elim
  · exact p.elim
end
/-! ## Methods of lists, stores -/
section
variable {X : Cx} {W : WX} {a b e o : Expr} {pos cpos apos tpos : Pos} {f g h : Env → Mu → R Va}
/-- a local list's cell -/
theorem cell_rd {K : PySem.W.Frag} {Hs H : Hp} {rh : List Addr} {m : Mu} {n : Nat} {v : V} {ds : List D} (s : SC K Hs H rh m) (r : RepA K Hs rh (.l n) v) (e : m[n]? = some (some (.lst ds))) : ∃ a vs, v = .ref a ∧ rh[n]? = some a ∧ H a = some (.lst vs) ∧ Reps K Hs ds vs := by
  obtain ⟨a, e1, rfl⟩ := r
  obtain ⟨a', o, q1, q2, q3, q4⟩ := s.cell n _ e
  rw [e1] at q1
  cases q1
  obtain ⟨vs, rfl, h⟩ := q4
  exact ⟨a, vs, rfl, e1, q3, h⟩
/-- a built-in type's method, by values -/
def MtS (X : Cx) (T id : String) (chk : Va → Mu → Bool) (o : Va → List Va → Mu → R Va) : Prop := ∃ r, MtR X id r ∧ (∀ Hs H rh m x v, SC X.K Hs H rh m → RepA X.K Hs rh x v → chk x m = true → tyV X.K T v H) ∧ ∀ W Hs H rh sg et m x v as vs Q, SR X.K Hs H rh sg et m → RepA X.K Hs rh x v → RepAs X.K Hs rh as vs → Post X.K W (RlA X.K) Hs H rh sg et Q (o x as m) → r v vs H Q
def MtF (X : Cx) (T id : String) (chk : Va → Mu → Bool) (o : Va → List Va → Mu → R (List D)) : Prop := ∃ r, MtR X id r ∧ (∀ Hs H rh m x v, SC X.K Hs H rh m → RepA X.K Hs rh x v → chk x m = true → tyV X.K T v H) ∧ ∀ W Hs0 H0 rh0 Hs H rh sg et m x v as vs Q, Ext Hs0 H0 rh0 Hs H rh → SR X.K Hs H rh sg et m → RepA X.K Hs rh x v → RepAs X.K Hs rh as vs → Post X.K W (RlF X.K H0) Hs H rh sg et Q (o x as m) → r v vs H Q
@[simp] def xBM {α : Type} (chk : Va → Mu → Bool) (o : Va → List Va → Mu → R α) (f : Env → Mu → R Va) (fa : Env → Mu → R (List Va)) : Env → Mu → R α := fun et m => (f et m).bind fun x m => if chk x m = true then (fa et m).bind fun as m => o x as m else .stuck
variable {T id : String} {name : Str} {es : List Expr} {chk : Va → Mu → Bool} {op : Va → List Va → Mu → R Va} {opl : Va → List Va → Mu → R (List D)} {fa : Env → Mu → R (List Va)}
theorem se_bm (pa : PlainAttrs T) (slot : Slot T name id) (hty : typeOf (.builtin id) = pure (.type "method_descriptor")) (hm : MtS X T id chk op) (ho : SE X W o f) (ha : SA X W (e :: es) fa) (hbase : attributeBase o name X.env (eval o X.env) = eval o X.env := by rfl)
    (hfew : ((backTo cpos (starEach (e :: es) X.env)).all (fun x => !x.1) && (backToKw cpos (keywordEach [] X.env)).all (fun x => x.1.isSome)
      && decide ((e :: es).length + ([] : List Keyword).length + (if ([] : List Keyword).isEmpty then 0 else 1) < 30)) = true := by rfl)
    (hline : (apos.endLine == cpos.line) = true := by rfl) (hs : starEach (e :: es) X.env = (false, eval e X.env) :: starEach es X.env := by rfl) (hplain : (backTo cpos (starEach es X.env)).any (·.1) = false := by rfl) :
    SE X W (.Call (.Attribute o name apos) (e :: es) [] cpos) (xBM chk op f fa) := by
  obtain ⟨r, hr, hc, rr⟩ := hm
  obtain ⟨to, ho, ro⟩ := ho
  obtain ⟨ta, ha, ra⟩ := ha
  refine ⟨_, pe_bm pa slot hty hr ho ha hbase hfew hline hs hplain, fun Hs H rh sg et m Q s p => ?_⟩
  unfold xBM at p
  refine ro Hs H rh sg et m _ s (Post.step p fun x m1 u Hs1 H1 rh1 x1 s1 r1 p1 => ?_)
  by_cases c : chk x m1 = true
  · rw [if_pos c] at p1
    refine ⟨hc Hs1 H1 rh1 m1 x u s1.sc r1 c, ra Hs1 H1 rh1 sg et m1 _ s1 (Post.step p1 fun as m2 vs Hs2 H2 rh2 x2 s2 r2 p2 => ?_)⟩
    exact rr W Hs2 H2 rh2 sg et m2 x u as vs Q s2 (r1.ext x2) r2 p2
  · rw [if_neg c] at p1
    exact p1.elim
theorem sf_bm (pa : PlainAttrs T) (slot : Slot T name id) (hty : typeOf (.builtin id) = pure (.type "method_descriptor")) (hm : MtF X T id chk opl) (ho : SE X W o f) (ha : SA X W (e :: es) fa) (hbase : attributeBase o name X.env (eval o X.env) = eval o X.env := by rfl)
    (hfew : ((backTo cpos (starEach (e :: es) X.env)).all (fun x => !x.1) && (backToKw cpos (keywordEach [] X.env)).all (fun x => x.1.isSome)
      && decide ((e :: es).length + ([] : List Keyword).length + (if ([] : List Keyword).isEmpty then 0 else 1) < 30)) = true := by rfl)
    (hline : (apos.endLine == cpos.line) = true := by rfl) (hs : starEach (e :: es) X.env = (false, eval e X.env) :: starEach es X.env := by rfl) (hplain : (backTo cpos (starEach es X.env)).any (·.1) = false := by rfl) :
    SF X W (.Call (.Attribute o name apos) (e :: es) [] cpos) (xBM chk opl f fa) := by
  obtain ⟨r, hr, hc, rr⟩ := hm
  obtain ⟨to, ho, ro⟩ := ho
  obtain ⟨ta, ha, ra⟩ := ha
  refine ⟨_, pe_bm pa slot hty hr ho ha hbase hfew hline hs hplain, fun Hs H rh sg et m Q s p => ?_⟩
  unfold xBM at p
  refine ro Hs H rh sg et m _ s (Post.step p fun x m1 u Hs1 H1 rh1 x1 s1 r1 p1 => ?_)
  by_cases c : chk x m1 = true
  · rw [if_pos c] at p1
    refine ⟨hc Hs1 H1 rh1 m1 x u s1.sc r1 c, ra Hs1 H1 rh1 sg et m1 _ s1 (Post.step p1 fun as m2 vs Hs2 H2 rh2 x2 s2 r2 p2 => ?_)⟩
    exact rr W Hs H rh Hs2 H2 rh2 sg et m2 x u as vs Q (x1.trans x2) s2 (r1.ext x2) r2 p2
  · rw [if_neg c] at p1
    exact p1.elim
@[simp] def isL (x : Va) (m : Mu) : Bool := (asL m x).isSome
theorem isL_ty {K : PySem.W.Frag} {Hs H : Hp} {rh : List Addr} {m : Mu} {x : Va} {v : V} (s : SC K Hs H rh m) (r : RepA K Hs rh x v) (c : isL x m = true) : tyV K "list" v H := by
  unfold isL at c
  cases q : asL m x with
  | none => rw [q] at c; cases c
  | some ds =>
    obtain ⟨a, vs, rfl, q1, _⟩ := asL_rd s r q
    exact .inl ⟨rfl, vs, q1⟩
/-- xs.append(v) -/
@[simp] def oAppend : Va → List Va → Mu → R Va := fun x as m => match x, as with
  | .l n, [.d d] => (match m[n]? with
    | some (some (.lst ds)) => if ds.length < sizeLine then .ok (.d .non) (m.set n (some (.lst (ds ++ [d])))) else .stuck
    | _ => .stuck)
  | _, _ => .stuck
theorem ms_append : MtS X "list" "list.append" isL oAppend := by
  refine ⟨_, mt_append, fun Hs H rh m x v s r c => isL_ty s r c, fun W Hs H rh sg et m x v as vs Q s r1 r2 p => ?_⟩
  unfold oAppend at p
  split at p
  · rename_i n d
    obtain ⟨u, rfl, r3⟩ := as1 r2
    split at p
    · rename_i ds e
      by_cases c : ds.length < sizeLine
      · rw [if_pos c] at p
        obtain ⟨a, us, rfl, q1, q2, h⟩ := cell_rd s.sc r1 e
        obtain ⟨w1, w2⟩ := s.sc.write (c := .lst (ds ++ [d])) (o := .lst (us ++ [u])) e q1 ⟨_, rfl, h.append (Reps.one r3)⟩
        exact ⟨a, us, u, rfl, rfl, q2, by rw [h.length]; exact c, Post.ok_ p w2 (s.ext w2 w1) mk_non⟩
      · rw [if_neg c] at p
        exact p.elim
    · exact p.elim
  · exact p.elim
theorem se_append (ho : SE X W o f) (ha : SA X W [e] fa) (hbase : attributeBase o "append" X.env (eval o X.env) = eval o X.env := by rfl)
    (hfew : ((backTo cpos (starEach [e] X.env)).all (fun x => !x.1) && (backToKw cpos (keywordEach [] X.env)).all (fun x => x.1.isSome)
      && decide (([e] : List Expr).length + ([] : List Keyword).length + (if ([] : List Keyword).isEmpty then 0 else 1) < 30)) = true := by rfl)
    (hline : (apos.endLine == cpos.line) = true := by rfl) (hs : starEach [e] X.env = (false, eval e X.env) :: starEach [] X.env := by rfl) (hplain : (backTo cpos (starEach [] X.env)).any (·.1) = false := by rfl) :
    SE X W (.Call (.Attribute o "append" apos) [e] [] cpos) (xBM isL oAppend f fa) := se_bm PySem.F.plainAttrs_list PySem.F.slot_list_append PySem.F.type_list_append ms_append ho ha hbase hfew hline hs hplain
/-- xs[i] = v, of a local list -/
@[simp] def gSubL (fo fi : Env → Mu → R Va) : Va → Env → Mu → RS := fun v e m => match fo e m with
  | .ok x m => (match fi e m with
    | .ok y m => (match x, y, v with
      | .l n, .d (.int i), .d d => (match m[n]? with
        | some (some (.lst ds)) => (match ixN ds.length i with
          | some j => .nx e (m.set n (some (.lst (ds.set j d))))
          | none => .stuck)
        | _ => .stuck)
      | _, _, _ => .stuck)
    | _ => .stuck)
  | _ => .stuck
theorem sg_subL {i : Expr} {fo fi : Env → Mu → R Va} (ho : SE X (fun _ _ _ _ => False) o fo) (hi : SE X (fun _ _ _ _ => False) i fi)
    (pg : ∀ v, assign (.Subscript o i tpos) X.env v = (do let ov ← holding [v] (eval o X.env); let iv ← holding [v, ov] (eval i X.env); standAt tpos; holding [v, ov, iv] (setItem ov iv v); release [v, ov, iv] []) := by intro _; rfl) : SG X (.Subscript o i tpos) (gSubL fo fi) := by
  obtain ⟨to, ho, ro⟩ := ho
  obtain ⟨ti, hi, ri⟩ := hi
  refine ⟨_, pg_sub ho hi set_list pg, fun Hs H rh sg et m x v Q s r z => ?_⟩
  unfold gSubL at z
  refine ro Hs H rh sg et m _ s ?_
  cases q1 : fo et m with
  | ok o1 m1 =>
    rw [q1] at z
    intro u Hs1 H1 rh1 x1 s1 r1
    refine ri Hs1 H1 rh1 sg et m1 _ s1 ?_
    dsimp only at z
    cases q2 : fi et m1 with
    | ok i2 m2 =>
      rw [q2] at z
      intro w Hs2 H2 rh2 x2 s2 r2
      dsimp only at z
      split at z
      · rename_i n k d
        split at z
        · rename_i ds e
          split at z
          · rename_i j ej
            obtain ⟨a, us, rfl, e1, e2, h⟩ := cell_rd s2.sc (r1.ext x2) e
            have rd : RepA X.K Hs2 rh2 (.d d) v := (r.ext x1).ext x2
            obtain ⟨w1, w2⟩ := s2.sc.write (c := .lst (ds.set j d)) (o := .lst (us.set j v)) e e1 ⟨_, rfl, h.set j rd⟩
            exact ⟨a, us, k, j, rfl, va_int r2, e2, by rw [h.length]; exact ej, z sg _ _ _ ((x1.trans x2).trans w2) (s2.ext w2 w1)⟩
          · exact z.elim
        · exact z.elim
      · exact z.elim
    | exc c d m2 => rw [q2] at z; exact z.elim
    | stuck => rw [q2] at z; exact z.elim
  | exc c d m1 => rw [q1] at z; exact z.elim
  | stuck => rw [q1] at z; exact z.elim
/-! x += e -/
@[simp] def zAug (i : Nat) (f : Env → Mu → R Va) : Env → Mu → RS := fun e m => match e[i]? with
  | some (some (.d (.int a))) => (f e m).toS e fun y m => match y with
    | .d (.int b) => .nx (e.set i (some (.d (.int (a + b))))) m
    | _ => .stuck
  | _ => .stuck
theorem ss_aug {i : Nat} {x : Str} {pos' : Pos} (hN : X.N.Nodup) (hi : X.N[i]? = some x) (hx : Loc X.env.scope x) (he : SE X W e f) (hf : X.fn x = true ∨ X.env.scope.names.lookup x = some .local := by first | exact .inl rfl | exact .inr rfl | assumption) : SS X W (.AugAssign (.Name x pos') .Add e pos) (zAug i f) := by
  obtain ⟨te, h, r⟩ := he
  refine ⟨_, ps_aug hN hi hx h ip_add hf, fun Hs H rh sg et m Dn s z => ?_⟩
  unfold zAug at z
  split at z
  · rename_i a ea
    obtain ⟨v, e1, e2⟩ := s.val i _ ea
    refine ⟨v, e1, r Hs H rh sg et m _ s (Post.toS s z fun d m1 u Hs1 H1 rh1 x1 s1 r1 p1 => ?_)⟩
    split at p1
    · rename_i b
      exact ⟨a, b, va_int e2, va_int r1, p1 _ Hs1 H1 rh1 .refl (s1.set mk_int)⟩
    · exact p1.elim
  · exact z.elim
end
/-! ## What is walked -/
section
variable {X : Cx} {W : WX} {tg e e2 : Expr} {p pos : Pos} {f g : Env → Mu → R Va} {fa : Env → Mu → R (List Va)}
/-- a frozen list, the script, a tuple -/
@[simp] def iSeq (f : Env → Mu → R Va) : Env → Mu → R (List Va) := fun et m => (f et m).bind fun x m => match x with
  | .d (.lst ds) => .ok (ds.map .d) m
  | .d (.scr ns) => .ok (ns.map fun n => .d (.int n)) m
  | .d (.tup ds) => .ok (ds.map .d) m
  | _ => .stuck
theorem pi_seq {tl : TE} (hl : PE X e tl) : PI X tg e (fun σ H R => tl σ H fun x H1 => ∃ a, x = .ref a ∧ (((∃ xs, SqL X.K H1 a xs) ∧ R (Itl X.K a) H1) ∨ ((∃ xs, SqT X.K H1 a xs) ∧ R (Itt X.K a) H1))) := by
  refine ⟨fun pins s σ H R I h => ?_⟩
  refine thn (hl.run pins s σ H _ I h) fun v s1 ⟨x, H1, I1, r1, q1⟩ => ?_
  obtain ⟨a, e, q1⟩ := q1
  subst e
  cases r1
  have fp : ∀ b ∈ [s1.heap.objs.size], FpOk X pins H1 b := fun b hb => by
    have e : b = s1.heap.objs.size := by simpa using hb
    subst e
    exact I1.fpOk (Nat.le_refl _) (I1.hok.fresh (Nat.le_refl _))
  rcases q1 with ⟨⟨xs, hq⟩, q⟩ | ⟨⟨xs, hq⟩, q⟩
  · obtain ⟨its, rv, p, hz⟩ := I1.list hq
    refine wpAny_pyIter_list p.isList ?_
    exact ⟨s1.heap.objs.size, [s1.heap.objs.size], _, _, H1, rfl, I1.kept (t' := s1.toks) fun b o e => Heap.get?_push_of_some _ e, turn_list a _, ⟨_, Heap.get?_push_size _ rfl, rfl, rfl⟩, fp, q⟩
  · obtain ⟨its, rv, p, hz⟩ := I1.tuple hq
    refine wpAny_pyIter_tuple (show s1.heap.IsTuple a its.toArray from p) ?_
    exact ⟨s1.heap.objs.size, [s1.heap.objs.size], _, _, H1, rfl, I1.kept (t' := s1.toks) fun b o e => Heap.get?_push_of_some _ e, turn_tuple a _, ⟨_, Heap.get?_push_size _ rfl, rfl, rfl⟩, fp, q⟩
theorem gv_list {K : PySem.W.Frag} {a : Addr} {vs : List V} {ds : List D} {Hs0 : Hp} {rh0 : List Addr} (q : SqL K Hs0 a vs) (h : Reps K Hs0 ds vs) : Gv K (Itl K a) (ds.map .d) Hs0 rh0 := fun Hs H rh m sc sm pf i => by
  have q1 : SqL K H a vs := Same.seq sc.same (Same.seq sm q)
  have hl := h.length
  refine ⟨fun hi => ?_, fun hi => ⟨vs, q1, by rw [hi, List.length_map, hl]; exact Nat.le_refl _⟩⟩
  rw [List.length_map] at hi
  have hv : i < vs.length := by rw [hl]; exact hi
  refine ⟨⟨vs, vs[i], q1, List.getElem?_eq_getElem hv⟩, fun x H' ⟨e, y⟩ => ?_⟩
  subst e
  refine ⟨Hs, sc, .refl, fun d hd => ?_⟩
  obtain ⟨d', e1, e2⟩ := h.get' (y vs q1)
  rw [List.getElem?_map, e1] at hd
  cases hd
  exact Rep.mono sm e2
theorem gv_tup {K : PySem.W.Frag} {a : Addr} {vs : List V} {ds : List D} {Hs0 : Hp} {rh0 : List Addr} (q : SqT K Hs0 a vs) (h : Reps K Hs0 ds vs) : Gv K (Itt K a) (ds.map .d) Hs0 rh0 := fun Hs H rh m sc sm pf i => by
  have q1 : SqT K H a vs := Same.seqT sc.same (Same.seqT sm q)
  have hl := h.length
  refine ⟨fun hi => ?_, fun hi => ⟨vs, q1, by rw [hi, List.length_map, hl]; exact Nat.le_refl _⟩⟩
  rw [List.length_map] at hi
  have hv : i < vs.length := by rw [hl]; exact hi
  refine ⟨⟨vs, vs[i], q1, List.getElem?_eq_getElem hv⟩, fun x H' ⟨e, y⟩ => ?_⟩
  subst e
  refine ⟨Hs, sc, .refl, fun d hd => ?_⟩
  obtain ⟨d', e1, e2⟩ := h.get' (y vs q1)
  rw [List.getElem?_map, e1] at hd
  cases hd
  exact Rep.mono sm e2
theorem PostI.step {K : PySem.W.Frag} {Hs H : Hp} {rh : List Addr} {sg : St2} {et : Env} {a b : Type} {Rel : Hp → Hp → List Addr → a → b → Prop} {Q : b → Hp → Prop} {Q2 : It → Hp → Prop} {f : R a} {g : a → Mu → R (List Va)} (h : PostI K W Hs H rh sg et Q2 (f.bind g))
    (k : ∀ d m v Hs1 H1 rh1, Ext Hs H rh Hs1 H1 rh1 → SR K Hs1 H1 rh1 sg et m → Rel Hs1 H1 rh1 d v → PostI K W Hs1 H1 rh1 sg et Q2 (g d m) → Q v H1) : Post K W Rel Hs H rh sg et Q f := by
  cases f with
  | ok d m =>
    intro v Hs' H' rh' y s r
    refine k d m v Hs' H' rh' y s r ?_
    have h' : PostI K W Hs H rh sg et Q2 (g d m) := h
    cases q : g d m with
    | ok xs m2 => rw [q] at h'; exact fun J Hs2 H2 rh2 x2 s2 gv => h' J Hs2 H2 rh2 (y.trans x2) s2 gv
    | exc c d m2 => rw [q] at h'; exact fun dx v Hs2 H2 rh2 x2 s2 q r => h' dx v Hs2 H2 rh2 (y.trans x2) s2 (q.base y) r
    | stuck => rw [q] at h'; exact h'
  | exc c d m => exact h
  | stuck => exact h
theorem si_seq (he : SE X W e f) : SI X W tg e (iSeq f) := by
  obtain ⟨t, h, r⟩ := he
  refine ⟨_, pi_seq h, fun Hs H rh sg et m Q s p => ?_⟩
  unfold iSeq at p
  refine r Hs H rh sg et m _ s (PostI.step p fun x m1 v Hs1 H1 rh1 x1 s1 r1 p1 => ?_)
  split at p1
  · rename_i ds
    have r' : Rep X.K Hs1 (.lst ds) v := r1
    simp only [Rep] at r'
    obtain ⟨a, vs, rfl, e2, e3⟩ := r'
    exact ⟨a, rfl, .inl ⟨⟨vs, SqL.of (s1.sc.same _ _ e2)⟩, p1 _ Hs1 H1 rh1 .refl s1 (gv_list (SqL.of e2) e3)⟩⟩
  · rename_i ns
    have r' : Rep X.K Hs1 (.scr ns) v := r1
    simp only [Rep] at r'
    obtain ⟨a, rfl, e2⟩ := r'
    have gv : Gv X.K (Itl X.K a) ((ns.map D.int).map .d) Hs1 rh1 := gv_list e2 reps_ints
    rw [List.map_map] at gv
    exact ⟨a, rfl, .inl ⟨⟨_, Same.seq s1.sc.same e2⟩, p1 _ Hs1 H1 rh1 .refl s1 gv⟩⟩
  · rename_i ds
    have r' : Rep X.K Hs1 (.tup ds) v := r1
    simp only [Rep] at r'
    obtain ⟨a, vs, rfl, e2, e3⟩ := r'
    exact ⟨a, rfl, .inr ⟨⟨vs, Same.seqT s1.sc.same e2⟩, p1 _ Hs1 H1 rh1 .refl s1 (gv_tup e2 e3)⟩⟩
  · exact p1.elim
/-- range(n), range(a, b) -/
def rngD (lo : Int) (n : Nat) : List Va := (List.range n).map fun i => .d (.int (lo + (i : Nat)))
theorem gv_rng {K : PySem.W.Frag} {lo : Int} {n : Nat} {Hs0 : Hp} {rh0 : List Addr} : Gv K (Itr lo n) (rngD lo n) Hs0 rh0 := fun Hs H rh m sc sm pf i => by
  have hl : (rngD lo n).length = n := by unfold rngD; rw [List.length_map, List.length_range]
  refine ⟨fun hi => ?_, fun hi => by rw [hi, hl]; exact Nat.le_refl _⟩
  rw [hl] at hi
  refine ⟨hi, fun x H' ⟨e, y⟩ => ?_⟩
  subst e
  refine ⟨Hs, sc, .refl, fun d hd => ?_⟩
  unfold rngD at hd
  rw [List.getElem?_map, List.getElem?_range hi] at hd
  cases hd
  rw [y]
  exact mk_int
@[simp] def iRg1 : List Va → Mu → R (List Va) := fun as m => match as with
  | [.d (.int j)] => if -(2 ^ 62) ≤ j ∧ j < 2 ^ 62 then .ok (rngD 0 j.toNat) m else .stuck
  | _ => .stuck
@[simp] def iRg2 : List Va → Mu → R (List Va) := fun as m => match as with
  | [.d (.int i), .d (.int j)] => if -(2 ^ 62) ≤ i ∧ i < 2 ^ 62 ∧ -(2 ^ 62) ≤ j ∧ j < 2 ^ 62 then .ok (rngD i (j - i).toNat) m else .stuck
  | _ => .stuck
@[simp] def iRng (o : List Va → Mu → R (List Va)) (fa : Env → Mu → R (List Va)) : Env → Mu → R (List Va) := fun et m => (fa et m).bind o
theorem si_range1 (hg : Gl X "range") (hm : X.mg "range" = none) (ha : SA X W [e] fa) (hs : starEach [e] X.env = [(false, eval e X.env)] := by rfl) : SI X W tg (.Call (.Name "range" p) [e] [] pos) (iRng iRg1 fa) := by
  obtain ⟨t, h, r⟩ := ha
  refine ⟨_, pi_range1 hg hm h hs, fun Hs H rh sg et m Q s p => ?_⟩
  unfold iRng at p
  refine r Hs H rh sg et m _ s (PostI.step p fun as m1 vs Hs1 H1 rh1 x1 s1 r1 p1 => ?_)
  unfold iRg1 at p1
  split at p1
  · rename_i j
    obtain ⟨v, rfl, r2⟩ := as1 r1
    by_cases c : -(2 ^ 62) ≤ j ∧ j < 2 ^ 62
    · rw [if_pos c] at p1
      exact ⟨j, by rw [va_int r2], c.1, c.2, p1 _ Hs1 H1 rh1 .refl s1 gv_rng⟩
    · rw [if_neg c] at p1
      exact p1.elim
  · exact p1.elim
theorem si_range2 (hg : Gl X "range") (hm : X.mg "range" = none) (ha : SA X W [e, e2] fa) (hs : starEach [e, e2] X.env = [(false, eval e X.env), (false, eval e2 X.env)] := by rfl) (hs2 : starEach [e2] X.env = [(false, eval e2 X.env)] := by rfl) : SI X W tg (.Call (.Name "range" p) [e, e2] [] pos) (iRng iRg2 fa) := by
  obtain ⟨t, h, r⟩ := ha
  refine ⟨_, pi_range2 hg hm h hs hs2, fun Hs H rh sg et m Q s p => ?_⟩
  unfold iRng at p
  refine r Hs H rh sg et m _ s (PostI.step p fun as m1 vs Hs1 H1 rh1 x1 s1 r1 p1 => ?_)
  unfold iRg2 at p1
  split at p1
  · rename_i i j
    obtain ⟨v, u, rfl, r2, r3⟩ := as2 r1
    by_cases c : -(2 ^ 62) ≤ i ∧ i < 2 ^ 62 ∧ -(2 ^ 62) ≤ j ∧ j < 2 ^ 62
    · rw [if_pos c] at p1
      exact ⟨i, j, by rw [va_int r2, va_int r3], c, p1 _ Hs1 H1 rh1 .refl s1 gv_rng⟩
    · rw [if_neg c] at p1
      exact p1.elim
  · exact p1.elim
end
end DL
set_option maxHeartbeats 4000000
namespace DL
open PySem PySem.Spec PyProof.Rows L2
/-! ## Comprehensions -/
abbrev WF : WX := fun _ _ _ _ => False
def cE (K : PySem.W.Frag) (f : Env → Mu → R Va) : TE := fun sg H Q => ∃ Hs rh et m, SR K Hs H rh sg et m ∧ Post K WF (RlA K) Hs H rh sg et Q (f et m)
def cT (K : PySem.W.Frag) (f : Env → Mu → R Bool) : TT := fun sg H Q => ∃ Hs rh et m, SR K Hs H rh sg et m ∧ Post K WF RlB Hs H rh sg et Q (f et m)
theorem SE.canon {X : Cx} {e : Expr} {f : Env → Mu → R Va} (h : SE X WF e f) : PE X e (cE X.K f) := by
  obtain ⟨t, p, r⟩ := h
  exact ⟨fun pins s sg H Q I ⟨Hs, rh, et, m, h1, h2⟩ => p.run pins s sg H Q I (r Hs H rh sg et m Q h1 h2)⟩
theorem ST.canon {X : Cx} {e : Expr} {f : Env → Mu → R Bool} (h : ST X WF e f) : PT X e (cT X.K f) := by
  obtain ⟨t, p, r⟩ := h
  exact ⟨fun pins s sg H Q I ⟨Hs, rh, et, m, h1, h2⟩ => p.run pins s sg H Q I (r Hs H rh sg et m Q h1 h2)⟩
/-- the tests: none, or one -/
def STs (X : Cx) (ifs : List Expr) (f : Env → Mu → R Bool) : Prop := PTs X ifs (cT X.K f)
@[simp] def pYes : Env → Mu → R Bool := fun _ m => .ok true m
theorem sts_nil {X : Cx} : STs X [] pYes := by
  have h : PTs X [] tYes := pts_nil
  exact ⟨fun pins s sg H Q I ⟨Hs, rh, et, m, h1, h2⟩ => h.run pins s sg H Q I (h2 true Hs H rh .refl h1 rfl)⟩
theorem sts_one {X : Cx} {e : Expr} {f : Env → Mu → R Bool} (h : ST X WF e f) : STs X [e] f := pts_one h.canon
section
variable {K : PySem.W.Frag} {Hs H Hs1 H1 : Hp} {rh rh1 : List Addr} {sg : St2} {et : Env} {m : Mu}
/-- a thing beside is written -/
theorem SR.aside (s : SR K Hs H rh sg et m) {p : Addr} {o : HO} (h1 : Hs p = none) (h2 : p ∉ rh) : SR K Hs (upd H p o) rh sg et m := by
  refine ⟨⟨fun b u e => by rw [upd_ne (ne_of_none e h1)]; exact s.sc.same b u e, s.sc.mlen, fun n c e => ?_, s.sc.nd, fun a ha => ?_⟩, s.len, s.val⟩
  · obtain ⟨a, u, e1, e2, e3, e4⟩ := s.sc.cell n c e
    exact ⟨a, u, e1, e2, by rw [upd_ne (fun z => h2 (by rw [← z]; exact List.mem_of_getElem? e1))]; exact e3, e4⟩
  · by_cases q : a = p
    · rw [q, upd_same]
      exact fun z => nomatch z
    · rw [upd_ne q]
      exact s.sc.old a ha
theorem Ext.aside (x : Ext Hs H rh Hs1 H1 rh1) {p : Addr} {o : HO} (h0 : H p = none) : Ext Hs H rh Hs1 (upd H1 p o) rh1 :=
  ⟨x.sub, x.pre, fun b u e n => by rw [upd_ne (ne_of_none e h0)]; exact x.keep b u e n, fun b hb => by
    by_cases q : b = p
    · rw [q, upd_same]
      exact fun z => nomatch z
    · rw [upd_ne q]
      exact x.there b hb, x.new, x.froz⟩
theorem Ext.freeAt (x : Ext Hs H rh Hs1 H1 rh1) {p : Addr} {o : HO} (h0 : H p = some o) (h1 : Hs p = none) (h2 : p ∉ rh) : H1 p = some o ∧ Hs1 p = none ∧ p ∉ rh1 := by
  refine ⟨x.keep p o h0 h2, ?_, fun z => (x.new p z).elim h2 fun q => by rw [q] at h0; cases h0⟩
  cases q : Hs1 p with
  | none => rfl
  | some u =>
    rcases x.froz p (by rw [q]; exact fun z => nomatch z) with z | z | z
    · exact absurd h1 z
    · rw [z] at h0; cases h0
    · exact absurd z h2
@[simp] def wipeD (et : Env) : List Nat → Env
  | [] => et
  | v :: vs => (wipeD et vs).set v none
theorem SR.wipes (s : SR K Hs H rh sg et m) : ∀ vs : List Nat, SR K Hs H rh (L2.wipe sg vs) (wipeD et vs) m
  | [] => s
  | v :: vs => (SR.wipes s vs).wipe
end
/-- nothing is raised out of a comprehension -/
@[simp] def noX {a : Type} : R a → R a
  | .exc _ _ _ => .stuck
  | r => r
@[simp] def dLc (t : Va → Env → Env) (p : Env → Mu → R Bool) (f : Env → Mu → R Va) (et : Env) : List Va → Mu → List D → R (List D)
  | [], m, acc => .ok acc m
  | x :: xs, m, acc => (noX (p (t x et) m)).bind fun b m => match b with
    | true => (noX (f (t x et) m)).bind fun y m => (match y with
      | .d d => if acc.length < sizeLine then dLc t p f et xs m (acc ++ [d]) else .stuck
      | _ => .stuck)
    | false => dLc t p f et xs m acc
@[simp] def xLc (fi : Env → Mu → R (List Va)) (vs : List Nat) (t : Va → Env → Env) (p : Env → Mu → R Bool) (f : Env → Mu → R Va) : Env → Mu → R (List D) := fun et m => (fi et m).bind fun xs m => dLc t p f (wipeD et vs) xs m []
/-- how a comprehension's target takes an item -/
def TgLc (K : PySem.W.Frag) (g : TG) (vs : List Nat) (t : Va → Env → Env) (ok : Va → Prop) : Prop := ∀ Hs H rh sg et m x v (Q : St2 → Hp → Prop), ok x → SR K Hs H rh sg et m → RepA K Hs rh x v → (∀ sg', SR K Hs H rh sg' (t x et) m → wipe sg' vs = wipe sg vs → Q sg' H) → g v sg H Q
section
variable {X : Cx} {W : WX} {elt tg iter : Expr} {ifs : List Expr} {scope : Scope} {own : List (Str × Nat)} {pos : Pos} {fi : Env → Mu → R (List Va)} {g : TG} {t : Va → Env → Env} {p : Env → Mu → R Bool} {f : Env → Mu → R Va} {vs : List Nat} {okx : Va → Prop} {wi : TI}
theorem wipe_wipe (sg : St2) : ∀ vs : List Nat, wipe (wipe sg vs) vs = wipe sg vs := by
  intro vs
  apply List.ext_getElem?
  intro i
  have h1 : ∀ (vs : List Nat) (sg : St2), (wipe sg vs)[i]? = if i ∈ vs ∧ i < sg.length then some none else sg[i]? := by
    intro vs
    induction vs with
    | nil => intro sg; simp [wipe]
    | cons v vs ih =>
      intro sg
      unfold wipe
      by_cases hv : v = i
      · subst hv
        by_cases hl : v < sg.length
        · rw [List.getElem?_set_self (by rw [wipe_length]; exact hl)]
          simp [hl]
        · rw [List.getElem?_eq_none (by rw [List.length_set, wipe_length]; omega)]
          have : ¬ (v ∈ v :: vs ∧ v < sg.length) := fun z => hl z.2
          rw [if_neg this, List.getElem?_eq_none (by omega)]
      · rw [List.getElem?_set_ne hv, ih]
        have e : (i ∈ v :: vs) ↔ (i ∈ vs) := by
          rw [List.mem_cons]
          exact ⟨fun z => z.elim (fun q => absurd q.symm hv) id, .inr⟩
        by_cases hm : i ∈ vs
        · simp [hm]
        · have hm2 : i ∉ v :: vs := fun z => hm (e.mp z)
          rw [if_neg (fun z => hm z.1), if_neg (fun z => hm2 z.1)]
  rw [h1 vs (wipe sg vs), h1 vs sg, wipe_length]
  split <;> rfl
theorem lc_read (ri : ∀ Hs H rh sg et m Q, SR X.K Hs H rh sg et m → PostI X.K W Hs H rh sg et Q (fi et m) → wi sg H Q) (hg : TgLc X.K g vs t okx) (hall : ∀ et m xs m', fi et m = .ok xs m' → ∀ x ∈ xs, okx x)
    {Hs0 H0 : Hp} {rh0 : List Addr} {Hs H : Hp} {rh : List Addr} {sg : St2} {et : Env} {m : Mu} {Q : VK} (x0 : Ext Hs0 H0 rh0 Hs H rh) (s : SR X.K Hs H rh sg et m) (z : Post X.K W (RlF X.K H0) Hs H rh sg et Q (xLc fi vs t p f et m)) : tLc wi g (cT X.K p) (cE X.K f) vs sg H Q := by
  unfold xLc at z
  refine ri Hs H rh sg et m _ s ?_
  cases qf : fi et m with
  | exc c d m1 => rw [qf] at z; exact z
  | stuck => rw [qf] at z; exact z
  | ok xs m1 =>
    rw [qf] at z
    have allx := hall et m xs m1 qf
    intro J Hs1 H1 rh1 x1 s1 gv Dd hD
    have hD0 : H0 Dd = none := Classical.byContradiction fun q => (x0.trans x1).there Dd q hD
    have hDs : Hs1 Dd = none := s1.sc.same.free hD
    have hDr : Dd ∉ rh1 := fun q => s1.sc.old Dd q hD
    have z1 : Post X.K W (RlF X.K H0) Hs1 H1 rh1 sg et Q (dLc t p f (wipeD et vs) xs m1 []) := Post.ext x1 z
    refine ⟨fun i n H' => n = xs.length - i ∧ i ≤ xs.length ∧ ∃ Hs' rh' m' acc us, SR X.K Hs' H' rh' sg et m' ∧ Ext Hs1 H1 rh1 Hs' H' rh' ∧ Hs' Dd = none ∧ Dd ∉ rh' ∧ H' Dd = some (.lst us) ∧ Reps X.K Hs' acc us ∧ Post X.K W (RlF X.K H0) Hs1 H1 rh1 sg et Q (dLc t p f (wipeD et vs) (xs.drop i) m' acc),
      ⟨xs.length, rfl, Nat.zero_le _, Hs1, rh1, m1, [], [], s1.aside hDs hDr, Ext.refl.aside hD, hDs, hDr, upd_same, reps_nil.mpr rfl, by simpa using z1⟩, ?_⟩
    rintro i n H2 ⟨rfl, hle, Hs2, rh2, m2, acc, us, s2, x2, d1, d2, d3, ra, z2⟩
    obtain ⟨g1, g2⟩ := gv Hs2 H2 rh2 m2 s2.sc x2.sub x2.pre i
    by_cases hlt : i < xs.length
    · obtain ⟨go, yl⟩ := g1 hlt
      have hd : xs.drop i = xs[i] :: xs.drop (i + 1) := List.drop_eq_getElem_cons hlt
      rw [hd] at z2
      have z3 : Post X.K W (RlF X.K H0) Hs1 H1 rh1 sg et Q ((noX (p (t xs[i] (wipeD et vs)) m2)).bind fun b m => match b with
        | true => (noX (f (t xs[i] (wipeD et vs)) m)).bind fun y m => (match y with
          | .d d => if acc.length < sizeLine then dLc t p f (wipeD et vs) (xs.drop (i + 1)) m (acc ++ [d]) else .stuck
          | _ => .stuck)
        | false => dLc t p f (wipeD et vs) (xs.drop (i + 1)) m acc) := z2
      refine .inr ⟨go, fun H' => i + 1 ≤ xs.length ∧ ∃ Hs' rh' m' acc us, SR X.K Hs' H' rh' sg et m' ∧ Ext Hs1 H1 rh1 Hs' H' rh' ∧ Hs' Dd = none ∧ Dd ∉ rh' ∧ H' Dd = some (.lst us) ∧ Reps X.K Hs' acc us ∧ Post X.K W (RlF X.K H0) Hs1 H1 rh1 sg et Q (dLc t p f (wipeD et vs) (xs.drop (i + 1)) m' acc), fun H' h => ⟨xs.length - (i + 1), by omega, rfl, h.1, h.2⟩, fun x H3 hy => ?_⟩
      obtain ⟨Hs3, sc3, x3, rep3⟩ := yl x H3 hy
      have s3 : SR X.K Hs3 H3 rh2 sg et m2 := s2.ext x3 sc3
      obtain ⟨e1, e2, e3⟩ := x3.freeAt d3 d1 d2
      have ra3 := ra.mono x3.sub
      refine hg Hs3 H3 rh2 (wipe sg vs) (wipeD et vs) m2 xs[i] x _ (allx _ (List.getElem_mem hlt)) (s3.wipes vs) (rep3 _ (List.getElem?_eq_getElem hlt)) fun sg4 s4 hw => ⟨by rw [hw, wipe_wipe], Hs3, rh2, t xs[i] (wipeD et vs), m2, s4, ?_⟩
      cases qp : p (t xs[i] (wipeD et vs)) m2 with
      | ok b m5 =>
        rw [qp] at z3
        intro b' Hs5 H5 rh5 x5 s5 eb
        have eb' : b = b' := eb
        subst eb'
        obtain ⟨f1, f2, f3⟩ := x5.freeAt e1 e2 e3
        have x15 := (x2.trans x3).trans x5
        have ra5 := ra3.mono x5.sub
        have s5' : SR X.K Hs5 H5 rh5 sg et m5 := s3.ext x5 s5.sc
        cases b with
        | true =>
          refine iteT ⟨Hs5, rh5, t xs[i] (wipeD et vs), m5, s5, ?_⟩
          simp only [noX, R.bind_ok] at z3
          cases qe : f (t xs[i] (wipeD et vs)) m5 with
          | ok y m6 =>
            rw [qe] at z3
            cases y with
            | l n => exact z3.elim
            | d d =>
              simp only [noX, R.bind_ok] at z3
              intro v Hs6 H6 rh6 x6 s6 rv
              obtain ⟨h1, h2, h3⟩ := x6.freeAt f1 f2 f3
              by_cases cl : acc.length < sizeLine
              · rw [if_pos cl] at z3
                refine ⟨us, h1, by rw [ra.length]; exact cl, hlt, Hs6, rh6, m6, acc ++ [d], us ++ [v], (s5'.ext x6 s6.sc).aside h2 h3, (x15.trans x6).aside hD, h2, h3, upd_same, (ra5.mono x6.sub).append (Reps.one rv), z3⟩
              · rw [if_neg cl] at z3
                exact z3.elim
          | exc c d m6 => rw [qe] at z3; exact z3.elim
          | stuck => rw [qe] at z3; exact z3.elim
        | false => exact iteF ⟨hlt, Hs5, rh5, m5, acc, us, s5', x15, f2, f3, f1, ra5, z3⟩
      | exc c d m5 => rw [qp] at z3; exact z3.elim
      | stuck => rw [qp] at z3; exact z3.elim
    · have hi : i = xs.length := by omega
      subst hi
      refine .inl ⟨g2 rfl, ?_⟩
      rw [List.drop_length] at z2
      exact z2 (.ref Dd) Hs2 H2 rh2 x2 s2 ⟨Dd, us, rfl, hD0, d1, d2, d3, ra⟩
theorem tgLc_name {K : PySem.W.Frag} {i : Nat} : TgLc K (gName i) [i] (fun x e => e.set i (some x)) (fun _ => True) := fun Hs H rh sg et m x v Q _ s r q => q _ (s.set r) (by
  show (List.set (List.set sg i (some v)) i none) = List.set sg i none
  rw [List.set_set])
abbrev tN (i : Nat) : Va → Env → Env := fun x e => e.set i (some x)
theorem sf_lc {i : Nat} (hc : X.calm = true) (hN : X.N.Nodup) (hi : SI X W tg iter fi) (ok : BlkOk X.N X.env.scope scope own) (ho : own.map (·.2) = [i])
    (hg : ∀ (s : Shared) (H : Hp) (C : Addr) (cl : List (Str × Addr)) (fp : List Addr), PG (X.blk s H scope (compEnvC scope cl C X.env) fp) tg (gName i)) (ht : ∀ (s : Shared) (H : Hp) (C : Addr) (cl : List (Str × Addr)) (fp : List Addr), STs (X.blk s H scope (compEnvC scope cl C X.env) fp) ifs p)
    (he : ∀ (s : Shared) (H : Hp) (C : Addr) (cl : List (Str × Addr)) (fp : List Addr), SE (X.blk s H scope (compEnvC scope cl C X.env) fp) WF elt f) (hs : ∀ x, foldedSetIterable iter X.env x = pure x := by intro _; rfl) :
    SF X W (.ListComp elt [⟨tg, iter, ifs, 0⟩] scope pos) (xLc fi [i] (tN i) p f) := by
  obtain ⟨wi, hi, ri⟩ := hi
  refine ⟨_, pe_lc (tt := cT X.K p) (te := cE X.K f) hc hN hi ok hg ht (fun s H C cl fp => (he s H C cl fp).canon) hs, fun Hs H rh sg et m Q s z => ?_⟩
  rw [ho]
  exact lc_read ri tgLc_name (fun _ _ _ _ _ _ _ => trivial) .refl s z
theorem asgF_read {te : TE} {i : Nat} {fl : Env → Mu → R (List D)} (r : ∀ Hs H rh sg et m Q, SR X.K Hs H rh sg et m → Post X.K W (RlF X.K H) Hs H rh sg et Q (fl et m) → te sg H Q) {Hs H : Hp} {rh : List Addr} {sg : St2} {et : Env} {m : Mu} {Dn : Ends} (s : SR X.K Hs H rh sg et m) :
    (PostS X.K W Hs H rh Dn (zAsg (xFrz fl) (gN i) et m) → te sg H fun x H1 => gName i x sg H1 Dn.nx) ∧ (PostS X.K W Hs H rh Dn (zAsg (xCel fl) (gN i) et m) → te sg H fun x H1 => gName i x sg H1 Dn.nx) := by
  refine ⟨fun z => r Hs H rh sg et m _ s ?_, fun z => r Hs H rh sg et m _ s ?_⟩
  · unfold zAsg xFrz at z
    cases q : fl et m with
    | ok ds m1 =>
      rw [q] at z
      intro v Hs1 H1 rh1 x1 s1 r1
      obtain ⟨Hs2, x2, s2, r2⟩ := RlF.frz x1 s1 r1
      exact z _ Hs2 H1 rh1 x2 (s2.set r2)
    | exc c d m1 => rw [q] at z; exact fun dx v Hs1 H1 rh1 x1 s1 h1 h2 => z dx v sg Hs1 H1 rh1 x1 s1 h1 h2
    | stuck => rw [q] at z; exact z
  · unfold zAsg xCel at z
    cases q : fl et m with
    | ok ds m1 =>
      rw [q] at z
      intro v Hs1 H1 rh1 x1 s1 r1
      obtain ⟨rh2, x2, s2, r2⟩ := RlF.cel x1 s1 r1
      exact z _ Hs1 H1 rh2 x2 (s2.set r2)
    | exc c d m1 => rw [q] at z; exact fun dx v Hs1 H1 rh1 x1 s1 h1 h2 => z dx v sg Hs1 H1 rh1 x1 s1 h1 h2
    | stuck => rw [q] at z; exact z
theorem ss_setLc {i j : Nat} {y : Str} {py spos : Pos} (hc : X.calm = true) (hN : X.N.Nodup) (hy : X.N[j]? = some y) (hyl : X.env.scope.names.lookup y = some .local)
    (hsw : swapsWith (.ListComp elt [⟨tg, iter, ifs, 0⟩] scope pos) (some (.Name y py)) spos.line X.env = pure true) (hi : SI X W tg iter fi) (ok : BlkOk X.N X.env.scope scope own) (ho : own.map (·.2) = [i])
    (hg : ∀ (s : Shared) (H : Hp) (C : Addr) (cl : List (Str × Addr)) (fp : List Addr), PG (X.blk s H scope (compEnvC scope cl C X.env) fp) tg (gName i)) (ht : ∀ (s : Shared) (H : Hp) (C : Addr) (cl : List (Str × Addr)) (fp : List Addr), STs (X.blk s H scope (compEnvC scope cl C X.env) fp) ifs p)
    (he : ∀ (s : Shared) (H : Hp) (C : Addr) (cl : List (Str × Addr)) (fp : List Addr), SE (X.blk s H scope (compEnvC scope cl C X.env) fp) WF elt f) (hs : ∀ x, foldedSetIterable iter X.env x = pure x := by intro _; rfl) :
    SS X W (.Assign [.Name y py] (.ListComp elt [⟨tg, iter, ifs, 0⟩] scope pos) spos) (zAsg (xFrz (xLc fi [i] (tN i) p f)) (gN j)) ∧ SS X W (.Assign [.Name y py] (.ListComp elt [⟨tg, iter, ifs, 0⟩] scope pos) spos) (zAsg (xCel (xLc fi [i] (tN i) p f)) (gN j)) := by
  obtain ⟨wi, hi, ri⟩ := hi
  have ps := ps_setLc (tt := cT X.K p) (te := cE X.K f) hc hN hy hyl hsw hi ok hg ht (fun s H C cl fp => (he s H C cl fp).canon) hs
  rw [ho] at ps
  have rd : ∀ Hs H rh sg et m Q, SR X.K Hs H rh sg et m → Post X.K W (RlF X.K H) Hs H rh sg et Q (xLc fi [i] (tN i) p f et m) → tLc wi (gName i) (cT X.K p) (cE X.K f) [i] sg H Q := fun Hs H rh sg et m Q s z => lc_read ri tgLc_name (fun _ _ _ _ _ _ _ => trivial) .refl s z
  exact ⟨⟨_, ps, fun Hs H rh sg et m Dn s z => (asgF_read rd s).1 z⟩, ⟨_, ps, fun Hs H rh sg et m Dn s z => (asgF_read rd s).2 z⟩⟩
end
end DL
set_option maxHeartbeats 4000000
namespace DL
open PySem PySem.Spec PyProof.Rows L2
/-! ## Reckoning with mirrors -/
def TurnP (P : RS → Prop) (J : Env → Mu → Prop) : RS → Prop
  | .nx e m => J e m
  | .cnt e m => J e m
  | .brk e m => P (.nx e m)
  | r => P r
section
variable {P : RS → Prop} {J : Env → Mu → Prop} {e : Env} {m : Mu} {v : Va} {c : Str} {d : D}
@[simp] theorem turnP_nx : TurnP P J (.nx e m) = J e m := rfl
@[simp] theorem turnP_cnt : TurnP P J (.cnt e m) = J e m := rfl
@[simp] theorem turnP_brk : TurnP P J (.brk e m) = P (.nx e m) := rfl
@[simp] theorem turnP_ret : TurnP P J (.ret v e m) = P (.ret v e m) := rfl
@[simp] theorem turnP_exc : TurnP P J (.exc c d e m) = P (.exc c d e m) := rfl
@[simp] theorem turnP_stuck : TurnP P J .stuck = P .stuck := rfl
variable {t : Va → Env → Mu → RS} {b : Env → Mu → RS}
theorem dFor_turn {x : Va} {xs : List Va} : dFor t b (x :: xs) e m = ((t x e m).stored b).loop (dFor t b xs) := by
  show (t x e m).stored (fun e m => (b e m).loop (dFor t b xs)) = _
  cases t x e m <;> rfl
theorem dFor_rule (P : RS → Prop) : ∀ {xs : List Va} (Iv : Nat → Env → Mu → Prop) {e : Env} {m : Mu}, Iv 0 e m →
    (∀ (i : Nat) x e m, xs[i]? = some x → Iv i e m → TurnP P (Iv (i + 1)) ((t x e m).stored b)) → (∀ e m, Iv xs.length e m → P (.nx e m)) → P (dFor t b xs e m)
  | [], Iv, e, m, h0, _, hd => hd e m h0
  | x :: xs, Iv, e, m, h0, hs, hd => by
    rw [dFor_turn]
    have h1 := hs 0 x e m rfl h0
    have ih : ∀ e' m', Iv 1 e' m' → P (dFor t b xs e' m') := fun e' m' h => dFor_rule P (fun i => Iv (i + 1)) h (fun i y e m hy hi => hs (i + 1) y e m (by simpa using hy) hi) fun e m h => hd e m (by simpa using h)
    cases q : (t x e m).stored b with
    | nx e' m' => rw [q] at h1; exact ih e' m' h1
    | cnt e' m' => rw [q] at h1; exact ih e' m' h1
    | brk e' m' => rw [q] at h1; exact h1
    | ret v e' m' => rw [q] at h1; exact h1
    | exc c d e' m' => rw [q] at h1; exact h1
    | stuck => rw [q] at h1; exact h1
/-- a comprehension that maps -/
theorem dLc_map {tt : Va → Env → Env} {f : Env → Mu → R Va} {et : Env} (F : Va → D) (m : Mu) : ∀ (xs : List Va) (acc : List D), (∀ x ∈ xs, f (tt x et) m = .ok (.d (F x)) m) → acc.length + xs.length ≤ sizeLine → dLc tt pYes f et xs m acc = .ok (acc ++ xs.map F) m
  | [], acc, _, _ => by simp
  | x :: xs, acc, h, hl => by
    have h1 := h x (List.mem_cons_self ..)
    have hc : acc.length < sizeLine := by rw [List.length_cons] at hl; omega
    have ih := dLc_map F m xs (acc ++ [F x]) (fun y hy => h y (List.mem_cons_of_mem _ hy)) (by rw [List.length_append, List.length_singleton]; rw [List.length_cons] at hl; omega)
    simp only [dLc, pYes, noX, R.bind_ok, h1, hc, if_true]
    rw [ih]
    simp
end
end DL
namespace DL
open PySem PySem.Spec PyProof.Rows L2
/-- a constant of the module -/
structure GC (K : PySem.W.Frag) (mg : Str → Option Value) (x : Str) (d : D) : Prop where
  ex : ∃ v u, mg x = some u ∧ RelV v u ∧ ∀ Hs, Rep K Hs d v
theorem se_gc {X : Cx} {W : WX} {x : Str} {d : D} {pos : Pos} (h : GC X.K X.mg x d) (hg : Gl X x) (hd : (x == ("__debug__" : Str)) = false := by decide) : SE X W (.Name x pos) (xC d) :=
  let ⟨_, _, h1, h2, h3⟩ := h.ex
  se_glob hg h1 h2 h3 hd
theorem un65 {k : Nat} {A : Around} (r : Room k A) : A.units + 65 < cLine := by have := r.un; omega
/-- a def as the top leaves it -/
structure DefOk (K : PySem.W.Frag) (mg : Str → Option Value) (glob name qual : Str) (st : Stmt) : Prop where
  ex : ∃ f fd, mg glob = some (.ref f) ∧ FunD K name qual (defArgs st) (defBody st) (defScope st) [] [] f fd
theorem okP {P : Program} {w : World} {K : PySem.W.Frag} {mg : Str → Option Value} {base : Heap} {x name qual : Str} {st : Stmt} {N ps : List Str} {k n : Nat} {F : List D → R0} {g : Env → Mu → RS} (h : DefOk K mg x name qual st) (S : FnScope N ps (defScope st)) (hn : ps.length = n)
    (hb : ∀ (kV doc pm : Value) (an : Option Addr) (cdv ct : Value) (us : List Value), us.length = ps.length → bindArgs (PySem.W.fnOf name qual (defArgs st) (defBody st) (defScope st) .none kV doc pm an cdv ct) ⟨us, []⟩ = pure (ps.zip us))
    (sb : ∀ (f : Addr) cd A outer s H E, Cok (cxD P w K mg base N qual (defScope st) f cd A outer s H E) (fun c d _ H => E c d H) k → SB (cxD P w K mg base N qual (defScope st) f cd A outer s H E) (fun c d _ H => E c d H) (defBody st) g)
    (hF : ∀ ds, ds.length = n → F ds ≠ .stuck → outP (g (startD N.length (ds.map .d)) []) = F ds) : FnP P w K mg base (k + 1) x n F := by
  obtain ⟨f, fd, hm, F0⟩ := h.ex
  exact fnP_of hm F0 S (F0.bindsN hb) hn (sb f) hF
theorem okS {P : Program} {w : World} {K : PySem.W.Frag} {mg : Str → Option Value} {base : Heap} {x name qual : Str} {st : Stmt} {N ps : List Str} {k n : Nat} {F : List Va → Mu → R Va} {g : Env → Mu → RS} (h : DefOk K mg x name qual st) (S : FnScope N ps (defScope st)) (hn : ps.length = n)
    (hb : ∀ (kV doc pm : Value) (an : Option Addr) (cdv ct : Value) (us : List Value), us.length = ps.length → bindArgs (PySem.W.fnOf name qual (defArgs st) (defBody st) (defScope st) .none kV doc pm an cdv ct) ⟨us, []⟩ = pure (ps.zip us))
    (sb : ∀ (f : Addr) cd A outer s H E, Cok (cxD P w K mg base N qual (defScope st) f cd A outer s H E) (fun c d _ H => E c d H) k → SB (cxD P w K mg base N qual (defScope st) f cd A outer s H E) (fun c d _ H => E c d H) (defBody st) g)
    (hF : ∀ as m, as.length = n → F as m ≠ .stuck → OutS m (g (startD N.length as) m) (F as m)) : FnS P w K mg base (k + 1) x n F := by
  obtain ⟨f, fd, hm, F0⟩ := h.ex
  exact fnS_of hm F0 S (F0.bindsN hb) hn (sb f) hF
/-! ints -/
theorem atI_ints {ns : List Int} {i : Int} (h0 : 0 ≤ i) (h : i < ns.length) : atI (ns.map D.int) i = some (.int (ns.getD i.toNat 0)) := by
  have h2 : i.toNat < ns.length := by omega
  unfold atI ixN
  rw [if_pos h0, List.length_map, if_pos h]
  simp [h2]
theorem cmul_r {i j : Int} (h1 : -(2 ^ 64) < j) (h2 : j < 2 ^ 64) : CMul i j := .inr ⟨h1, h2⟩
/-- the ints of a list -/
def intsOf : List D → Option (List Int)
  | [] => some []
  | .int i :: r => (intsOf r).map (i :: ·)
  | _ :: _ => none
@[simp] theorem intsOf_map : ∀ ns : List Int, intsOf (ns.map .int) = some ns
  | [] => rfl
  | n :: ns => by
    show (intsOf (ns.map .int)).map (n :: ·) = _
    rw [intsOf_map ns]
    rfl
theorem intsOf_eq : ∀ {ds : List D} {ns : List Int}, intsOf ds = some ns → ds = ns.map .int
  | [], ns, h => by cases h; rfl
  | d :: r, ns, h => by
    cases d with
    | int i =>
      have h' : (intsOf r).map (i :: ·) = some ns := h
      cases q : intsOf r with
      | none => rw [q] at h'; cases h'
      | some ms =>
        rw [q] at h'
        cases h'
        rw [intsOf_eq q]
        rfl
    | _ => cases h
theorem cut_set {m : Mu} {n : Nat} {c : Ce} (h : NotObj c) : Cut m (m.set n (some c)) (m.set n (some c)) := by
  refine ⟨by rw [List.length_set], List.prefix_refl _, fun i d e => ?_⟩
  by_cases hi : n = i
  · subst hi
    have hl : n < m.length := by
      have q := (List.getElem?_eq_some_iff.mp e).1
      rwa [List.length_set] at q
    rw [List.getElem?_set_self hl] at e
    cases e
    exact .inr h
  · rw [List.getElem?_set_ne hi] at e
    exact .inl e
theorem Cut.refl (m : Mu) : Cut m m m := ⟨rfl, List.prefix_refl _, fun _ _ e => .inl e⟩
end DL
namespace DL
open PySem PySem.Spec PyProof.Rows L2
/-! data of one piece -/
@[simp] theorem shaped_int (i : Int) : SeqAt.shaped (.int i) = true := rfl
@[simp] theorem shaped_bool (i : Bool) : SeqAt.shaped (.bool i) = true := rfl
@[simp] theorem shaped_none : SeqAt.shaped .none = true := rfl
@[simp] theorem eqv_int (i j : Int) : PyData.eqv (.int i) (.int j) = (i == j) := rfl
@[simp] theorem eqv_str (i j : Str) : PyData.eqv (.str i) (.str j) = (i == j) := rfl
@[simp] theorem eqv_bool (i j : Bool) : PyData.eqv (.bool i) (.bool j) = (i == j) := rfl
@[simp] theorem eqv_none : PyData.eqv .none .none = true := rfl
@[simp] theorem cdivn_997 (i : Int) : CDivN i 997 := ⟨by decide, by decide⟩
theorem sizeLine_lt {n : Nat} (h : n ≤ 16000000) : n < sizeLine := by rw [sizeLine_eq]; omega
end DL
set_option maxHeartbeats 4000000
/-! Errors over PageError, over Exception, whose __init__ keeps one field "at": made, raised, read. -/
namespace PySem
namespace ErrX
open PySem.W PySem.Calls PyProof.Rows PySem.HandSPX
abbrev exB : List Value := [.type "Exception", .type "BaseException", .type "object"]
def iA (p1 p2 : Pos) : Arguments := { posonlyargs := [], args := [{ arg := "self", annotation := none, pos := p1 }, { arg := "at", annotation := none, pos := p2 }], vararg := none, kwonlyargs := [], kw_defaults := [], kwarg := none, defaults := [] }
def iS : Scope := { kind := .function, names := [(PySem.Str.ofString "self", .local), (PySem.Str.ofString "at", .local)], isGenerator := false, isCoroutine := false, more := [] }
def iB (q1 q2 q3 q4 : Pos) : List Stmt := [.Assign [.Attribute (.Name "self" q1) "at" q2] (.Name "at" q3) q4]
/-- what the written part says of the error class named cn, at C, and of its __init__, at fI -/
structure ErrTxt (K : Frag) (mg : Str → Option Value) (cn qn : Str) (C fI : Addr) : Prop where
  gC : mg cn = some (.ref C)
  cls : ∃ nm q N bs bm sn sub ab col dd k0 k1 k2 k3 k5, K.lookup C = some (excClassObj nm q C N bs bm true sn sub ab col dd k0 k1 k2 k3 k5 "Exception.__new__") ∧ excTail exB bm = true
  sa : findIn K (.ref C) "__setattr__" = some (some (.builtin "object.__setattr__"))
  ga : findIn K (.ref C) "__getattribute__" = some (some (.builtin "BaseException.__getattribute__"))
  gg : findIn K (.ref C) "__getattr__" = some none
  noN : findIn K (.ref C) "at" = some none
  iC : findIn K (.ref C) "__init__" = some (some (.ref fI))
  tC : typeIn K (.ref fI) = some (.type "function")
  kC : keepIn K (.ref C) = true
  exC : subIn K (.ref C) (.type "BaseException") = some true
  tyC : typeIn K (.ref C) = some (.type "type")
  hdC : hasDictIn K C = true
  fn : ∃ (oc : Value) (od : Option Addr) (kV doc pm : Value) (an : Option Addr) (cdv ct : Value) (osl : Array (Option Value)) (p1 p2 q1 q2 q3 q4 : Pos) (dpre : List Stmt),
    K.lookup fI = some ⟨oc, od, .func (fnOf "__init__" qn (iA p1 p2) (dpre ++ iB q1 q2 q3 q4) iS .none kV doc pm an cdv ct), osl⟩ ∧ codeIn K cdv qn = true ∧ dpre = []
theorem one_sz (v : Value) : [v].length ≤ sizeLine := by
  rw [sizeLine_eq]
  exact (by decide : 1 ≤ 16777216)
theorem ldL {M : Model} {s : Shared} {name : Str} {scope : Scope} {L a : Addr} {cd : Value} {m : Str → Option Value} {x : Str} {pos : Pos} {v : Value} {Q : Value → Shared → Prop} {A : Around} {E : Value → Shared → Prop} (hn : s.heap.Ns L m) (hv : m x = some v) (h : Q v s)
    (hk : scope.kind = .function := by rfl) (hl : (envOfC name scope L a cd).kindOf x = some .local := by rfl) (hd : (x == ("__debug__" : Str)) = false := by decide) :
    wpAny M A (eval (.Name x pos) (envOfC name scope L a cd)) Q E s := wpAny_Name (wpAny_loadName_local hk hl hn hv h) hd
structure InitEnd (h h' : Heap) (x C dx t1 : Addr) (v : Value) : Prop where
  keep : ∀ b o, b ≠ x → h.get? b = some o → h'.get? b = some o
  obj : h'.get? x = some { cls := .ref C, dict := some dx, data := .fields #[.ref t1, .none, .none, .none, .bool false, .none] }
  dbig : h.objs.size ≤ dx
  dne : dx ≠ x
  ns : h'.Ns1 dx (fun y => if y = "at" then some v else none)
structure OwnMade (h h' : Heap) (e C d : Addr) (v : Value) : Prop where
  keep : ∀ b o, h.get? b = some o → h'.get? b = some o
  new : h.objs.size ≤ e
  obj : ∃ oe vs, h'.get? e = some oe ∧ oe.cls = .ref C ∧ oe.dict = some d ∧ oe.data = .fields vs ∧ vs[1]? = some .none ∧ vs[2]? = some .none
  dbig : h.objs.size ≤ d
  dne : d ≠ e
  ns : h'.Ns1 d (fun y => if y = "at" then some v else none)
section
open Builtin Builtin.ObjectAttr
variable {prog : Program} {w : World} {A : Around} {R : Result → Shared → Prop} {hp : Heap} {g : Array GenState} {d : Drawn} {t : Nat} {os : OsState}
/-- the first store into such an error -/
theorem err_osa {K : W.Frag} {name : Str} {tk : Tok} {v : Value} {x C : Addr} {fv : Array Value} {cd : ClassData}
    (X : K.In hp) (hx : hp.get? x = some { cls := .ref C, data := .fields fv }) (hcd : W.clsIn K C = some cd) (hm : excTail exB cd.mro = true) (hh : cd.hasDict = true) (ha : W.findIn K (.ref C) name = some none)
    (hq : ∀ h' tk' dx, (∀ b o, b ≠ x → hp.get? b = some o → h'.get? b = some o) → hp.objs.size ≤ dx → dx ≠ x → h'.get? x = some { cls := .ref C, dict := some dx, data := .fields fv } →
      h'.Ns1 dx (fun y => if y = name then some v else none) → R (.ok (.ret .none)) ⟨h', g, d, tk', os⟩) :
    codeAny (model prog w) A (.call (.builtin "object.__setattr__") ⟨[.ref x, .str name tk, v], []⟩) R ⟨hp, g, d, t, os⟩ := by
  have I : W.InstAt hp x { cls := .ref C, data := .fields fv } C none := ⟨hx, rfl, rfl, trivial⟩
  have SF := F.store_object
  have hne : ¬ (cd.mro.isEmpty = true) := fun z => by
    rw [List.isEmpty_iff.mp z] at hm
    exact absurd hm (by decide)
  have hob : cd.mro.contains (.type "object") = true := (excTail_contains "object" _ hm).trans (by decide +kernel)
  have hxs : x ≠ hp.objs.size := Nat.ne_of_lt (Heap.lt_size hx)
  have su : W.Looks (model prog w) hp (isInstance (.ref x) (.type "object")) true := I.type.andThen (W.looks_mroIn X (by unfold W.mroIn; rw [hcd, Option.bind_some, if_neg hne, hob]))
  refine codeAny_call_builtin SF.slot.plain SF.entry (@W.check_slot (model prog w) _ _ ⟨hp, g, d, t, os⟩ "object.__setattr__" "object" "__setattr__" (.ref x) [.str name tk, v] [] _ SF.kind SF.split su (SF.args (.ref x) (.str name tk) v) ?_)
  have hmr : W.Looks (model prog w) hp (mroOf (.ref C)) cd.mro := (W.looks_clsIn X hcd).andThen .now
  have L3 : W.Looks (model prog w) hp (storeTaker? none) none := .now
  have hcls : W.Looks (model prog w) hp (classData C) cd := W.looks_clsIn X hcd
  have hps := excTail_pass (.ref x) (F.store_Exception.passes _) cd.mro hm
  rw [W.osa_eq, refuse_eq]
  refine wpAny_bind (wpAny_bind (I.type.at (wpAny_bind (hmr.at ?_))))
  rw [hps]
  refine wpAny_pure (wpAny_bind (I.type.at (wpAny_bind ((W.looks_findIn X ha).at (wpAny_bind (L3.at ?_))))))
  show wpAny _ _ (storeInOwnDict (.ref x) (.ref C) (.str name tk) name v false) _ _ _
  obtain ⟨nm, bs, mro, ns, qn, hd, sn, sb, ab, col, del⟩ := cd
  dsimp only at hh
  subst hh
  unfold storeInOwnDict ownDictForStores
  repeat (first | with_reducible refine store_in_new ?_ ?_ | with_reducible refine wpAny_loadPart_at hx ?_ | with_reducible refine hcls.at ?_ | wp_step)
  · exact ⟨_, #[], _, (Heap.get?_update_ne _ _ _ _ hxs.symm).trans (Heap.get?_push_at rfl rfl), rfl, fun e he => absurd he (by simp), fun _ => rfl⟩
  · intro h' tk' hn' hs
    have hx1 : (hp.push { cls := .type "dict", data := .dict #[] }).get? x = some { cls := .ref C, data := .fields fv } := Heap.get?_push_of_some _ hx
    refine hq h' tk' hp.objs.size (fun b o hb ho => ?_) (Nat.le_refl _) hxs.symm ?_ hn'
    · exact (hs.2 b (Nat.ne_of_lt (Heap.lt_size ho))).trans ((Heap.get?_update_ne _ _ _ _ hb).trans (Heap.get?_push_of_some _ ho))
    · exact (hs.2 x hxs).trans (Heap.get?_update_self _ hx1 rfl)
end
section
variable {prog : Program} {w : World} {A : Around} {E : Value → Shared → Prop} {R : Result → Shared → Prop} {s : Shared} {K : Frag} {mg : Str → Option Value} {cn qn : Str} {C fI : Addr}
theorem err_init (T : ErrTxt K mg cn qn C fI) {x t0 : Addr} {v : Value} (X : K.In s.heap) (hlim : s.heap.NoLimit) (hx : s.heap.get? x = some (excO C t0)) (hnx : K.lookup x = none) (hroom : A.depth < recursionLimit)
    (hq : ∀ h' tk dx, InitEnd s.heap h' x C dx t0 v → R (.ok (.ret .none)) { s with heap := h', toks := tk }) :
    codeAny (model prog w) A (.call (.ref fI) ⟨[.ref x, v], []⟩) R s := by
  obtain ⟨oc, od, kV, doc, pm, an, cdv, ct, osl, p1, p2, q1, q2, q3, q4, dpre, ho, hcd, rfl⟩ := T.fn
  obtain ⟨nm, q, N, bs, bm, sn, sub, ab, col, dd, k0, k1, k2, k3, k5, hC, hbm⟩ := T.cls
  have hcl : clsIn K C = some { name := nm, bases := bs, mro := .ref C :: bm, ns := N, qualname := q, hasDict := true, slotNames := sn, subclasses := sub, abstract := ab, collection := col, hasDel := false } := by unfold clsIn; rw [hC] <;> rfl
  refine Att.call_fn (binds := [("self", .ref x), ("at", v)]) X hlim ho hcd hroom (BindsTo.of_eq (by first | rfl | with_unfolding_all rfl)) (by first | rfl | decide | with_unfolding_all rfl) (fun s1 IC => ?_) rfl rfl rfl
  obtain ⟨h1, tk1, rfl⟩ := IC.toInCall.same
  have k : ∀ b o, s.heap.get? b = some o → h1.get? b = some o := IC.toInCall.keep
  have hn := IC.toInCall.ns
  have X1 : K.In h1 := X.keeps k
  have hx1 := k _ _ hx
  show wpAny _ _ (execs _ _) _ _ _
  refine wpAny_execs_cons (plainObj_wpAny_Assign_Attribute ?_)
  refine ldL (v := v) hn (by first | rfl | with_unfolding_all rfl | kernel_rfl) (ldL (v := .ref x) hn (by first | rfl | with_unfolding_all rfl | kernel_rfl) ?_)
  refine set_plain X1 (ox := excO C t0) (od := none) ⟨hx1, rfl, rfl, trivial⟩ T.sa ?_
  refine err_osa X1 hx1 hcl (show excTail exB (.ref C :: bm) = true from hbm) rfl T.noN (fun h3 tk3 dx k3 dn dne hx3 hn3 => ?_)
  show wpAny _ _ (execs _ _) _ _ _
  have z : s.heap.objs.size < h1.objs.size := hn.lt
  exact wpAny_execs_nil (hq h3 tk3 dx ⟨fun b o hb e => k3 b o hb (k b o e), hx3, Nat.le_of_lt (Nat.lt_of_lt_of_le z dn), dne, hn3⟩)
theorem err_made (T : ErrTxt K mg cn qn C fI) {v : Value} (X : K.In s.heap) (hlim : s.heap.NoLimit) (hroom : A.depth + 1 < recursionLimit)
    (hq : ∀ h' tk e d, OwnMade s.heap h' e C d v → R (.ok (.ret (.ref e))) { s with heap := h', toks := tk }) :
    codeAny (model prog w) A (.call (.ref C) ⟨[v], []⟩) R s := by
  obtain ⟨nm, q, N, bs, bm, sn, sub, ab, col, dd, k0, k1, k2, k3, k5, hC, hbm⟩ := T.cls
  obtain ⟨hp, g, dr, tk, os⟩ := s
  have k : ∀ b o, hp.get? b = some o → ((hp.push (kdv_tup [v])).push (excO C hp.objs.size)).get? b = some o := fun b o e => Heap.get?_push_of_some _ (Heap.get?_push_of_some _ e)
  have hget : ((hp.push (kdv_tup [v])).push (excO C hp.objs.size)).get? (hp.objs.size + 1) = some (excO C hp.objs.size) := by heap_get
  have hnx : K.lookup (hp.objs.size + 1) = none := by
    cases e : K.lookup (hp.objs.size + 1) with
    | none => rfl
    | some o =>
      have z : hp.get? (hp.objs.size + 1) = some o := X _ _ e
      exact absurd (Nat.lt_of_succ_lt (Heap.lt_size z)) (Nat.lt_irrefl _)
  refine call_own F.excBase_Exception (fun X => excTail_contains X bm hbm) (X _ _ hC) (looks_findIn X T.iC) (fun self => bind_fn X self T.tC) (one_sz v) ?_
  refine err_init (s := ⟨(hp.push (kdv_tup [v])).push (excO C hp.objs.size), g, dr, tk, os⟩) T (X.keeps k) (hlim.keeps k) hget hnx ?_ fun h' tk' dx ⟨k', hx, dn, dne, hns⟩ => ?_
  · show A.depth + 1 < recursionLimit
    exact hroom
  · have old : ∀ b o, hp.get? b = some o → h'.get? b = some o := fun b o e => k' b o (Nat.ne_of_lt (Nat.lt_succ_of_lt (Heap.lt_size e))) (k b o e)
    have z : hp.objs.size + 1 + 1 ≤ dx := by
      first
        | (simpa only [Heap.size_push] using dn)
        | exact dn
        | (have q := dn; rw [Heap.size_push, Heap.size_push] at q; exact q)
    exact ⟨rfl, hq h' tk' (hp.objs.size + 1) dx ⟨old, Nat.le_succ _, ⟨_, _, hx, rfl, rfl, rfl, rfl, rfl⟩, Nat.le_trans (Nat.le_trans (Nat.le_succ _) (Nat.le_succ _)) z, dne, hns⟩⟩
end
end ErrX
end PySem
namespace L2
open PySem PySem.Spec PyProof.Rows
theorem relO_at {v : V} {v' : Value} (r : RelV v v') (f : Str) : RelO (List.lookup f [(("at" : Str), v)]) (if f = "at" then some v' else none) := by
  by_cases hw : f = "at"
  · subst hw
    rw [if_pos rfl]
    have q : List.lookup ("at" : Str) [(("at" : Str), v)] = some v := by simp [List.lookup]
    rw [q]
    exact r
  · rw [if_neg hw]
    have qw : (f == ("at" : Str)) = false := by simpa using hw
    have q2 : List.lookup f [(("at" : Str), v)] = none := by simp [List.lookup, qw]
    rw [q2]
    trivial
section
variable {X : Cx} {C fI : Addr} {cn qn : Str}
def tMkErr (C : Addr) (ta : TA) : L2.St → Hp → XK → Prop := fun sg H Q => ta sg H fun vs H1 => ∃ v, vs = [v] ∧ ∀ d, H1 d = none → Q (.ref C) (some d) (upd H1 d (.xd [(("at" : Str), v)]))
theorem pmk_err {a : Expr} {ta : TA} {p pos : Pos} {k : Nat} (T : PySem.ErrX.ErrTxt X.K X.mg cn qn C fI) (hr : Room k X.A) (ha : PA X [a] ta) (hg : Gl X cn) (hdb : (cn == ("__debug__" : Str)) = false := by decide)
    (he : starEach (a :: []) X.env = (false, eval a X.env) :: starEach [] X.env := by rfl) (hpl : (backTo pos (starEach [] X.env)).any (·.1) = false := by rfl) :
    L2N.PMk X (.Call (.Name cn p) [a] [] pos) (tMkErr C ta) := by
  intro pins s sg H Q I h
  refine wpAny_Call_Name_kw (ld_glob I hg T.gC ?_ hdb)
  refine PySem.W.callWith_K (h₀ := X.base) I.ok.mod.kin T.kC (thn (ha.run pos pins s sg H _ I h) fun us s1 hh => ?_) he hpl
  obtain ⟨vs, H1, I1, r1, v, ev, q1⟩ := hh
  subst ev
  refine ⟨I1.kIn, ?_⟩
  cases r1 with
  | cons rv rn =>
    rename_i v' us'
    cases rn
    show wpAny _ _ (call (.ref C) [v']) _ _ _
    have hlim := I1.nolimit
    obtain ⟨hp, g, dr, tk, os⟩ := s1
    refine wpAny_call (PySem.ErrX.err_made T I1.kIn hlim (by have := hr.dp; omega) fun h' tk' e d M => ?_)
    show L2N.MkP X pins sg Q (.ref e) ⟨h', g, dr, tk', os⟩
    obtain ⟨oe, fv, hoe, hc, hd, hdat, h1, h2⟩ := M.obj
    have hns := M.ns
    obtain ⟨G', g1, g2⟩ := restrict h' fun b => decide (b ≠ e)
    have gk : ∀ b, b ≠ e → G'.get? b = h'.get? b := fun b hb => g1 b (decide_eq_true hb)
    have ge : G'.get? e = none := g2 e (by simp)
    have old : ∀ b o, hp.get? b = some o → G'.get? b = some o := fun b o q => (gk b (Nat.ne_of_lt (Nat.lt_of_lt_of_le (Heap.lt_size q) M.new))).trans (M.keep b o q)
    have ob : ObjOk X.prog X.w (upd H1 d (.xd [(("at" : Str), v)])) G' d (.xd [(("at" : Str), v)]) :=
      ⟨_, hns.at (fun o q => (gk d M.dne).trans q), fun f => relO_at rv f⟩
    have J : Inv X pins sg (upd H1 d (.xd [(("at" : Str), v)])) ⟨G', g, dr, tk', os⟩ := I1.laid (t' := tk') old M.dbig ob
    refine ⟨e, oe, fv, ⟨G', g, dr, tk', os⟩, _, .ref C, some d, rfl, J, fun b o q => ?_, ge, hoe, ⟨hc, hd, fun vs e => by rw [hdat] at e; cases e; exact h2⟩, hdat, h1, ?_, rfl, I1.bare, raises_own T.exC T.tyC, q1 d (I1.hok.fresh M.dbig)⟩
    · by_cases hb : b = e
      · have q' : G'.get? b = some o := q
        rw [hb, ge] at q'; cases q'
      · exact (gk b hb).symm.trans q
    · rw [upd_ne (Ne.symm M.dne)]
      exact I1.hok.fresh M.new
def tRaiseErr (C : Addr) (W : WX) (ta : TA) : TS := fun _ sg H => tMkErr C ta sg H fun cls d H' => W cls d sg H'
theorem ps_raiseErr {a : Expr} {ta : TA} {W : WX} {p pos pos2 : Pos} {k : Nat} (hc : X.calm = true) (T : PySem.ErrX.ErrTxt X.K X.mg cn qn C fI) (hr : Room k X.A) (tk : L2N.Takes X W) (ha : PA X [a] ta) (hg : Gl X cn) (hdb : (cn == ("__debug__" : Str)) = false := by decide)
    (he : starEach (a :: []) X.env = (false, eval a X.env) :: starEach [] X.env := by rfl) (hpl : (backTo pos (starEach [] X.env)).any (·.1) = false := by rfl) :
    PS X (.Raise (some (.Call (.Name cn p) [a] [] pos)) none pos2) (tRaiseErr C W ta) := L2N.ps_raise hc tk (pmk_err T hr ha hg hdb he hpl)
def tAtErr (C : Addr) (a : Addr) (cls : Value) (d : Option Addr) (te : TE) : TE := fun sg H Q => te sg H fun x H1 => x = .ref a ∧ cls = .ref C ∧ ∃ (dd : Addr) (v : V), d = some dd ∧ H1 dd = some (.xd [(("at" : Str), v)]) ∧ Q v H1
theorem pe_atErr {a : Addr} {oe : Obj} {cls : Value} {d : Option Addr} {pn : List (Addr × Obj)} {e : Expr} {te : TE} {pos : Pos} (T : PySem.ErrX.ErrTxt X.K X.mg cn qn C fI) (hz : Zc cls d oe) (hf : ∃ vs, oe.data = .fields vs) (he : PE (X.suite a ((a, oe) :: pn)) e te)
    (hb : attributeBase e "at" X.env (eval e X.env) = eval e X.env := by rfl) :
    PE (X.suite a ((a, oe) :: pn)) (.Attribute e "at" pos) (tAtErr C a cls d te) := by
  refine ⟨fun pins s sg H Q I h => ?_⟩
  refine attr_of hb (thn (he.run pins s sg H _ I h) fun u s1 hh => ?_)
  obtain ⟨x, H1, I1, rx, ex, ec, dd, v, ed, ea, q⟩ := hh
  subst ex
  obtain rfl : u = Value.ref a := rx
  subst ec
  subst ed
  obtain ⟨ha, _⟩ := I1.pin (a, oe) (List.mem_append_left _ List.mem_cons_self)
  obtain ⟨vs, hd⟩ := hf
  have hx : ObjOk X.prog X.w H1 s1.heap dd (.xd [(("at" : Str), v)]) := I1.hok dd _ ea
  obtain ⟨mA, hns, hr⟩ := hx
  obtain ⟨od, ho, hl⟩ := lookIn_ns hns
  have l : List.lookup ("at" : Str) [(("at" : Str), v)] = some v := by simp [List.lookup]
  obtain ⟨u, hu, ru⟩ := RelO.some_of (v := v) (o := mA "at") (by rw [← l]; exact hr "at")
  have J : PySem.W.InstAt s1.heap a oe C (some od) := ⟨ha, hz.1, by unfold PySem.W.notCls; rw [hd] <;> rfl, by rw [hz.2]; exact ho⟩
  exact HandSPX.exc_get I1.kIn J T.ga T.gg T.exC (PySem.W.findObj_own T.hdC T.noN rfl (by rw [hl, hu])) (handed_of ru) ⟨v, H1, I1.tok _, ru, q⟩
end
end L2
set_option maxHeartbeats 4000000
/-! A try whose clauses may bear names. -/
namespace L2
open PySem PySem.Spec PyProof.Rows
abbrev ClT := Value × Option Nat × (Addr → Value → Option Addr → TS)
/-- behind the suite the name's slot is empty -/
def gone (i : Nat) (D : Ends) : Ends := { nx := fun sg H => D.nx (sg.set i none) H, rt := D.rt, bk := fun sg H => D.bk (sg.set i none) H, ct := fun sg H => D.ct (sg.set i none) H }
def wCls (K : PySem.W.Frag) (Wout : WX) (D : Ends) : List ClT → WX
  | [] => Wout
  | (c, none, ts) :: r => fun cls d sg H => ∃ b, PySem.W.exmOne K cls c = some b ∧ (b = true → ∀ a, H a = none → ts a cls d D sg H) ∧ (b = false → wCls K Wout D r cls d sg H)
  | (c, some i, ts) :: r => fun cls d sg H => ∃ b, PySem.W.exmOne K cls c = some b ∧ (b = true → ∀ a, H a = none → ts a cls d (gone i D) (sg.set i (some (.ref a))) H) ∧ (b = false → wCls K Wout D r cls d sg H)
inductive ClsOk (X : Cx) : List ExceptHandler → List ClT → Prop
  | nil : ClsOk X [] []
  | cons {x : Str} {c : Value} {ts : Addr → Value → Option Addr → TS} {b₀ : Stmt} {suite : List Stmt} {np pos' : Pos} {hds : List ExceptHandler} {l : List ClT} (hc : Names X x c)
      (hsu : ∀ (a : Addr) (oe : Obj) (cls : Value) (d : Option Addr) (pn : List (Addr × Obj)), L2N.Zn cls d oe → (∃ vs, oe.data = .fields vs) → PSs (X.suite a ((a, oe) :: pn)) (b₀ :: suite) (ts a cls d)) (r : ClsOk X hds l) :
      ClsOk X (.ExceptHandler (some (.Name x np)) none (b₀ :: suite) pos' :: hds) ((c, none, ts) :: l)
  | consN {x n : Str} {c : Value} {ts : Addr → Value → Option Addr → TS} {i : Nat} {b₀ : Stmt} {suite : List Stmt} {np pos' : Pos} {hds : List ExceptHandler} {l : List ClT} (hi : X.N[i]? = some n) (hln : X.env.kindOf n = some .local) (hc : Names X x c)
      (hsu : ∀ (a : Addr) (oe : Obj) (cls : Value) (d : Option Addr) (pn : List (Addr × Obj)), L2N.Zn cls d oe → (∃ vs, oe.data = .fields vs) → PSs (X.suite a ((a, oe) :: pn)) (b₀ :: suite) (ts a cls d)) (r : ClsOk X hds l) :
      ClsOk X (.ExceptHandler (some (.Name x np)) (some n) (b₀ :: suite) pos' :: hds) ((c, some i, ts) :: l)
section
variable {X : Cx} {body : List Stmt} {h₀ : ExceptHandler} {hds : List ExceptHandler} {l : List ClT} {pos : Pos} {tb : WX → TS} {Wout : WX}
theorem ps_try_clauses (hN : X.N.Nodup) (hs : X.stack = X.env :: X.outer) (hf : X.env.frame = some X.env.locals) (tk : L2N.Takes X Wout)
    (hb : ∀ (W : WX) (pn : List (Addr × Obj)) (xe : Value → Shared → Prop), L2N.Takes (X.tr pn xe) W → PassesOwn (model X.prog X.w) X.A X.env xe → PSs (X.tr pn xe) body (tb W))
    (hh : ClsOk X (h₀ :: hds) l) : PS X (.Try body (h₀ :: hds) [] [] pos) (fun D σ H => tb (wCls X.K Wout D l) D σ H) := by
  refine ⟨fun pins s σ H D I h => ?_⟩
  have ok := I.ok
  have hfr : X.A.frames = some (X.env :: X.outer) := by rw [ok.frames, hs]
  refine wpAny_Try_except ?_
  refine wpAny_mono ((hb (wCls X.K Wout D l) (X.pn ++ pins) (fun e s₁ => wpAny (model X.prog X.w) X.A (noteFrame e X.env) (fun _ s₂ => wpAny (model X.prog X.w) X.A (setFlight e none) (fun _ s₃ =>
    wpAny (model X.prog X.w) X.A (handleBy e X.env (h₀ :: hds)) (SP X pins D) X.xe s₃) X.xe s₂) X.xe s₁) (fun u s' xx => ?_) PassesOwn.looking).run [] s σ H D (I.toTry _) h) (fun f s1 hsp => ?_) (fun e s1 he => he)
  · -- the catch
    obtain ⟨a, B, sI, pins', σ', H', cls, d, rfl, J', nb, up, sky, na, os, ag, w⟩ := xx
    have J : Inv X pins σ' H' sI := J'.ofTry ok
    have sky' : Sky B (X.env :: X.outer) a (L2N.Zn cls d) X.env.locals s'.heap := by rw [← hs]; exact sky
    show wpAny (model X.prog X.w) X.A (noteFrame (.ref a) X.env) _ _ _
    refine L2N.Sky.land L2N.Zn.steady hfr hf sky' fun h3 fl3 up3 => ?_
    have J3 : Inv X pins σ' H' { s' with heap := h3 } := J.landed nb fl3.1 (up.trans up3) os ag
    obtain ⟨oe3, vs3, he3, hz3, hd3⟩ := fl3.there
    have notFr : ∀ {h : Heap} {o : Obj} {vs : Array Value}, h.FunFrames B (X.env :: X.outer) → h.get? a = some o → o.data = .fields vs → a ∉ frs (X.env :: X.outer) := fun {h o vs} ff e dd hm => by
      obtain ⟨_, o', e', hnf⟩ := ff.mem hm
      rw [e] at e'; cases e'
      exact hnf _ dd
    have nfr := notFr fl3.2.2.1 he3 hd3
    have nL : a ≠ X.env.locals := fun z => nfr (List.mem_filterMap.mpr ⟨X.env, List.mem_cons_self, by rw [hf, z]⟩)
    have nF : a ∉ X.fs := fun hm => by
      obtain ⟨e, he, q⟩ := List.mem_filterMap.mp hm
      exact nfr (List.mem_filterMap.mpr ⟨e, List.mem_cons_of_mem _ he, q⟩)
    have S3 := J3.suite he3 hd3 na nL nF
    have go : ∀ {hds' : List ExceptHandler} {l' : List ClT}, ClsOk X hds' l' → wCls X.K Wout D l' cls d σ' H' →
        wpAny (model X.prog X.w) X.A (handleBy (.ref a) X.env hds') (SP X pins D) X.xe { s' with heap := h3 } := by
      intro hds' l' hk
      induction hk with
      | nil =>
        intro w
        refine wpAny_handleBy_nil ?_
        obtain ⟨k1, k2, k3, oe, vs, T, oT, ts', he, hz, hd, h1, hr⟩ := id fl3
        unfold PySem.passOn
        refine wpAny_bind (wpAny_field he hd h1 ?_)
        rw [if_neg (show ¬ ((Value.ref T == Value.none) = true) from by simp)]
        have fin : wpAny (model X.prog X.w) X.A (setFlight (.ref a) X.env.frame) (fun _ s4 => wpAny (model X.prog X.w) X.A (throw (.ref a) : Sem Flow) (SP X pins D) X.xe s4) X.xe { s' with heap := h3 } := by
          rw [hf]
          refine HandSPX.setFlight_upZ fl3 fun h4 hh4 up4 => wpAny_throw (tk _ _ ?_)
          exact ⟨a, B, sI, pins, σ', H', cls, d, rfl, J, nb, (up.trans up3).trans up4, .inr (.inr (by rw [hs]; exact hh4)), na, os, ag, w⟩
        first
          | exact wpAny_bind (wpAny_pure (wpAny_bind fin))
          | exact wpAny_bind fin
      | @cons x c ts b₀ suite np pos' hds2 l2 hc hsu r ih =>
        intro w
        obtain ⟨b, hb1, hyes, hno⟩ := w
        refine wpAny_handleBy_cons (codeAny_handlers_test ?_) (by intro q; cases q)
        have LT : PySem.W.Looks (model X.prog X.w) h3 (typeOf (.ref a)) cls := fun A Q E s k q => wpAny_typeOf_ref (k _ _ he3) (by rw [hz3.1]; exact q)
        have LM := PySem.W.exm_one (M := model X.prog X.w) (J3.kIn) LT hb1
        have test : ∀ {Q : Value → Shared → Prop} {E : Value → Shared → Prop}, Q c { s' with heap := h3 } → wpAny (model X.prog X.w) (X.A.mark (some (.ref a))) (eval (.Name x np) X.env) Q E { s' with heap := h3 } := fun {Q E} q => by
          obtain ⟨hg, hdbg, hm | ⟨hm, hv, hnn⟩⟩ := hc
          · exact ld_glob (X := X.suite a ((a, oe3) :: (X.pn ++ pins))) S3 hg hm q hdbg
          · exact ld_blt (X := X.suite a ((a, oe3) :: (X.pn ++ pins))) S3 hg hm hv q hnn hdbg
        refine test (LM.here ?_)
        cases b with
        | true =>
          refine codeAny_handlers_suite ?_
          refine HandSPX.lands_againZ fl3 fun h4 fl4 up4 => ?_
          have J4 : Inv X pins σ' H' { s' with heap := h4 } := J.landed nb fl4.1 ((up.trans up3).trans up4) os ag
          obtain ⟨oe4, vs4, he4, hz4, hd4⟩ := fl4.there
          have S4 := J4.suite he4 hd4 na nL nF
          refine wpAny_mono ((hsu a oe4 cls d (X.pn ++ pins) hz4 ⟨_, hd4⟩).run [] _ _ H' _ S4 (hyes rfl a na)) (fun f s6 hsp => ?_) (fun _ _ z => False.elim z)
          cases f with
          | next =>
            obtain ⟨σ6, H6, S6, q6⟩ := hsp
            exact ⟨_, _, S6.unsuite ok, q6⟩
          | brk =>
            obtain ⟨σ6, H6, S6, q6⟩ := hsp
            exact ⟨_, _, S6.unsuite ok, q6⟩
          | cont =>
            obtain ⟨σ6, H6, S6, q6⟩ := hsp
            exact ⟨_, _, S6.unsuite ok, q6⟩
          | ret u =>
            obtain ⟨v6, σ6, H6, S6, r6, q6⟩ := hsp
            exact ⟨_, _, _, S6.unsuite ok, r6, q6⟩
        | false =>
          show wpAny _ X.A (handleBy (.ref a) X.env hds2) _ _ _
          exact ih (hno rfl)
      | @consN x n c ts i b₀ suite np pos' hds2 l2 hi hln hc hsu r ih =>
        intro w
        obtain ⟨b, hb1, hyes, hno⟩ := w
        refine wpAny_handleBy_cons (codeAny_handlers_test ?_) (by intro q; cases q)
        have LT : PySem.W.Looks (model X.prog X.w) h3 (typeOf (.ref a)) cls := fun A Q E s k q => wpAny_typeOf_ref (k _ _ he3) (by rw [hz3.1]; exact q)
        have LM := PySem.W.exm_one (M := model X.prog X.w) (J3.kIn) LT hb1
        have test : ∀ {Q : Value → Shared → Prop} {E : Value → Shared → Prop}, Q c { s' with heap := h3 } → wpAny (model X.prog X.w) (X.A.mark (some (.ref a))) (eval (.Name x np) X.env) Q E { s' with heap := h3 } := fun {Q E} q => by
          obtain ⟨hg, hdbg, hm | ⟨hm, hv, hnn⟩⟩ := hc
          · exact ld_glob (X := X.suite a ((a, oe3) :: (X.pn ++ pins))) S3 hg hm q hdbg
          · exact ld_blt (X := X.suite a ((a, oe3) :: (X.pn ++ pins))) S3 hg hm hv q hnn hdbg
        refine test (LM.here ?_)
        cases b with
        | true =>
          refine codeAny_handlers_suite_as ?_
          refine HandSPX.lands_againZ fl3 fun h4 fl4 up4 => ?_
          have J4 : Inv X pins σ' H' { s' with heap := h4 } := J.landed nb fl4.1 ((up.trans up3).trans up4) os ag
          obtain ⟨oe4, vs4, he4, hz4, hd4⟩ := fl4.there
          have S4 := J4.suite he4 hd4 na nL nF
          refine store_ok (X := X.suite a ((a, oe4) :: (X.pn ++ pins))) (v := .ref a) S4 hN hi (.inl hln) rfl (fun s5 S5 => ?_) (.inr hln)
          refine wpAny_mono ((hsu a oe4 cls d (X.pn ++ pins) hz4 ⟨_, hd4⟩).run [] s5 _ H' _ S5 (hyes rfl a na)) (fun f s6 hsp => ?_) (fun _ _ z => False.elim z)
          have end_ : ∀ {σ6 : L2.St} {H6 : Hp} {Q : Shared → Prop}, Inv (X.suite a ((a, oe4) :: (X.pn ++ pins))) [] σ6 H6 s6 → (∀ s7, Inv X pins (σ6.set i none) H6 s7 → Q s7) →
              wpAny (model X.prog X.w) X.A (do bindName X.env n .none; unbindBehindTheSuite X.env n pos') (fun _ s7 => Q s7) X.xe s6 := fun {σ6 H6 Q} S6 hq => gone_ok (S6.unsuite ok) hN hi hln hq
          cases f with
          | next =>
            obtain ⟨σ6, H6, S6, q6⟩ := hsp
            exact end_ S6 fun s7 J7 => ⟨_, _, J7, q6⟩
          | brk =>
            obtain ⟨σ6, H6, S6, q6⟩ := hsp
            exact end_ S6 fun s7 J7 => ⟨_, _, J7, q6⟩
          | cont =>
            obtain ⟨σ6, H6, S6, q6⟩ := hsp
            exact end_ S6 fun s7 J7 => ⟨_, _, J7, q6⟩
          | ret u =>
            obtain ⟨v6, σ6, H6, S6, r6, q6⟩ := hsp
            exact end_ S6 fun s7 J7 => ⟨_, _, _, J7, r6, q6⟩
        | false =>
          show wpAny _ X.A (handleBy (.ref a) X.env hds2) _ _ _
          exact ih (hno rfl)
    exact go hh w
  · cases f with
    | next =>
      obtain ⟨σ', H', J', q⟩ := hsp
      exact wpAny_execs_nil ⟨σ', H', J'.ofTry ok, q⟩
    | brk =>
      obtain ⟨σ', H', J', q⟩ := hsp
      exact ⟨σ', H', J'.ofTry ok, q⟩
    | cont =>
      obtain ⟨σ', H', J', q⟩ := hsp
      exact ⟨σ', H', J'.ofTry ok, q⟩
    | ret u =>
      obtain ⟨v, σ', H', J', r, q⟩ := hsp
      exact ⟨v, σ', H', J'.ofTry ok, r, q⟩
end
end L2
set_option maxHeartbeats 4000000
namespace DL
open PySem PySem.Spec PyProof.Rows L2
/-! ## raise, try -/
structure ErrK (K : PySem.W.Frag) (mg : Str → Option Value) (c : Str) : Prop where
  ex : ∃ qn fI, PySem.ErrX.ErrTxt K mg c qn (cA K c) fI
@[simp] def zRaise (c : Str) (f : Env → Mu → R Va) : Env → Mu → RS := fun e m => (f e m).toS e fun v m => match v with
  | .d d => .exc c d e m
  | .l _ => .stuck
section
variable {X : Cx} {W : WX}
theorem ss_raise {cn : Str} {a : Expr} {f : Env → Mu → R Va} {p pos pos2 : Pos} {k : Nat} (hc : X.calm = true) (T : ErrK X.K X.mg cn) (hr : Room k X.A) (tk : L2N.Takes X W) (ha : SE X W a f) (hg : Gl X cn) (hdb : (cn == ("__debug__" : Str)) = false := by decide)
    (hs : starEach (a :: []) X.env = (false, eval a X.env) :: starEach [] X.env := by rfl) (hpl : (backTo pos (starEach [] X.env)).any (·.1) = false := by rfl) :
    SS X W (.Raise (some (.Call (.Name cn p) [a] [] pos)) none pos2) (zRaise cn f) := by
  obtain ⟨qn, fI, T⟩ := T.ex
  obtain ⟨t, h, r⟩ := ha
  refine ⟨_, ps_raiseErr hc T hr tk (pa_cons h pa_nil hs) hg hdb hs hpl, fun Hs H rh sg et m Dn s z => r Hs H rh sg et m _ s (Post.toS s z fun d m1 v Hs1 H1 rh1 x1 s1 r1 p1 => ?_)⟩
  show ∃ w, [v] = [w] ∧ _
  refine ⟨v, rfl, fun dd hd => ?_⟩
  cases d with
  | l n => exact p1.elim
  | d d =>
    have hds : Hs1 dd = none := s1.sc.same.free hd
    have hdr : dd ∉ rh1 := fun z => s1.sc.old dd z hd
    exact p1 dd v sg Hs1 _ rh1 (Ext.refl.aside hd) (s1.aside hds hdr) ⟨hd, hds, hdr, upd_same⟩ r1
end
def RS.gone (i : Nat) : RS → RS
  | .nx e m => .nx (e.set i none) m
  | .ret x e m => .ret x (e.set i none) m
  | .brk e m => .brk (e.set i none) m
  | .cnt e m => .cnt (e.set i none) m
  | _ => .stuck
section
variable {i : Nat} {e : Env} {m : Mu} {x : Va} {c : Str} {d : D}
@[simp] theorem gone_nx : (RS.nx e m).gone i = .nx (e.set i none) m := rfl
@[simp] theorem gone_ret : (RS.ret x e m).gone i = .ret x (e.set i none) m := rfl
@[simp] theorem gone_brk : (RS.brk e m).gone i = .brk (e.set i none) m := rfl
@[simp] theorem gone_cnt : (RS.cnt e m).gone i = .cnt (e.set i none) m := rfl
@[simp] theorem gone_exc : (RS.exc c d e m).gone i = .stuck := rfl
@[simp] theorem gone_stuck : RS.stuck.gone i = .stuck := rfl
end
open Classical in
/-- what does not hang on the places -/
noncomputable def anyA (f : Addr → Addr → RS) : RS := if h : ∃ r, ∀ a dd, f a dd = r then h.choose else .stuck
theorem anyA_eq {f : Addr → Addr → RS} {r : RS} (h : ∀ a dd, f a dd = r) : anyA f = r := by
  unfold anyA
  have hx : ∃ r, ∀ a dd, f a dd = r := ⟨r, h⟩
  rw [dif_pos hx]
  exact (hx.choose_spec 0 0).symm.trans (h 0 0)
@[simp] theorem anyA_const (r : RS) : anyA (fun _ _ => r) = r := anyA_eq fun _ _ => rfl
theorem anyA_at {f : Addr → Addr → RS} (a dd : Addr) : anyA f = f a dd ∨ anyA f = .stuck := by
  unfold anyA
  by_cases hx : ∃ r, ∀ a dd, f a dd = r
  · rw [dif_pos hx]
    exact .inl (hx.choose_spec a dd).symm
  · rw [dif_neg hx]
    exact .inr rfl
structure HS where
  c : Str
  i : Option Nat
  g : Str → Addr → Addr → Env → Mu → RS
@[simp] def excSub (c h : Str) : Bool := c == h || h == "PageError"
@[simp] noncomputable def hRun (h : HS) (c : Str) (d : D) (e : Env) (m : Mu) : RS := match h.i with
  | none => anyA fun a dd => match h.g c a dd e m with
    | .exc _ _ _ _ => .stuck
    | r => r
  | some i => anyA fun a dd => (h.g c a dd (e.set i (some (.d (.exn a dd c d)))) m).gone i
@[simp] noncomputable def zHs : List HS → Str → D → Env → Mu → RS
  | [], c, d, e, m => .exc c d e m
  | h :: r, c, d, e, m => if excSub c h.c = true then hRun h c d e m else zHs r c d e m
@[simp] noncomputable def zTry (cs : List Str) (gb : Env → Mu → RS) (hs : List HS) : Env → Mu → RS := fun e m => match gb e m with
  | .exc c d e m => if cs.contains c = true then zHs hs c d e m else .stuck
  | r => r
def cB (K : PySem.W.Frag) (W : WX) (f : Env → Mu → RS) : TS := fun Dn sg H => ∃ Hs rh et m, SR K Hs H rh sg et m ∧ PostS K W Hs H rh Dn (f et m)
theorem SB.canon {X : Cx} {W : WX} {b : List Stmt} {f : Env → Mu → RS} (h : SB X W b f) : PSs X b (cB X.K W f) := by
  obtain ⟨t, p, r⟩ := h
  exact ⟨fun pins s sg H Q I ⟨Hs, rh, et, m, h1, h2⟩ => p.run pins s sg H Q I (r Hs H rh sg et m Q h1 h2)⟩
/-- a suite's wish -/
def tsOf (K : PySem.W.Frag) (cs : List Str) (h : HS) : Addr → Value → Option Addr → TS := fun a cls d D sg H => ∃ c dd, cs.contains c = true ∧ cls = .ref (cA K c) ∧ d = some dd ∧ cB K WF (h.g c a dd) D sg H
inductive HsOk (X : Cx) (cs : List Str) : List ExceptHandler → List HS → Prop
  | nil : HsOk X cs [] []
  | cons {x : Str} {n : Option Str} {h : HS} {b₀ : Stmt} {suite : List Stmt} {np pos' : Pos} {hds : List ExceptHandler} {l : List HS} (hc : Names X x (.ref (cA X.K h.c)))
      (hn : (n = none ∧ h.i = none) ∨ ∃ y i, n = some y ∧ h.i = some i ∧ X.N[i]? = some y ∧ X.env.kindOf y = some .local)
      (hx : ∀ c, cs.contains c = true → PySem.W.exmOne X.K (.ref (cA X.K c)) (.ref (cA X.K h.c)) = some (excSub c h.c))
      (hsu : ∀ (c : Str), cs.contains c = true → ∀ (a dd : Addr) (oe : Obj) (pn : List (Addr × Obj)), L2N.Zn (.ref (cA X.K c)) (some dd) oe → (∃ vs, oe.data = .fields vs) → SB (X.suite a ((a, oe) :: pn)) WF (b₀ :: suite) (h.g c a dd)) (r : HsOk X cs hds l) :
      HsOk X cs (.ExceptHandler (some (.Name x np)) n (b₀ :: suite) pos' :: hds) (h :: l)
section
variable {X : Cx} {W : WX} {cs : List Str}
def clT (X : Cx) (cs : List Str) (l : List HS) : List ClT := l.map fun h => (.ref (cA X.K h.c), h.i, tsOf X.K cs h)
theorem HsOk.cls : ∀ {hds : List ExceptHandler} {l : List HS}, HsOk X cs hds l → ClsOk X hds (clT X cs l)
  | _, _, .nil => .nil
  | _, _, .cons (n := n) (h := h) (b₀ := b₀) (suite := suite) (l := l) hc hn hx hsu r => by
    have ih := r.cls
    have sp : ∀ (a : Addr) (oe : Obj) (cls : Value) (d : Option Addr) (pn : List (Addr × Obj)), L2N.Zn cls d oe → (∃ vs, oe.data = .fields vs) → PSs (X.suite a ((a, oe) :: pn)) (b₀ :: suite) (tsOf X.K cs h a cls d) := by
      intro a oe cls d pn hz hf
      refine ⟨fun pins s sg H D I q => ?_⟩
      obtain ⟨c, dd, h1, rfl, rfl, q⟩ := q
      exact (hsu c h1 a dd oe pn hz hf).canon.run pins s sg H D I q
    rcases hn with ⟨rfl, e⟩ | ⟨y, i, rfl, e, h1, h2⟩
    · show ClsOk X _ ((.ref (cA X.K h.c), h.i, tsOf X.K cs h) :: clT X cs l)
      rw [e]
      exact .cons hc sp ih
    · show ClsOk X _ ((.ref (cA X.K h.c), h.i, tsOf X.K cs h) :: clT X cs l)
      rw [e]
      exact .consN h1 h2 hc sp ih
theorem post_gone {K : PySem.W.Frag} {i : Nat} {Hs H : Hp} {rh : List Addr} {Dn : Ends} : ∀ {r : RS}, PostS K W Hs H rh Dn (r.gone i) → PostS K WF Hs H rh (gone i Dn) r
  | .nx _ _, z => fun sg5 Hs5 H5 rh5 x5 s5 => z (sg5.set i none) Hs5 H5 rh5 x5 s5.wipe
  | .brk _ _, z => fun sg5 Hs5 H5 rh5 x5 s5 => z (sg5.set i none) Hs5 H5 rh5 x5 s5.wipe
  | .cnt _ _, z => fun sg5 Hs5 H5 rh5 x5 s5 => z (sg5.set i none) Hs5 H5 rh5 x5 s5.wipe
  | .ret _ _ _, z => fun v sg5 Hs5 H5 rh5 x5 s5 r => z v (sg5.set i none) Hs5 H5 rh5 x5 s5.wipe r
  | .exc _ _ _ _, z => z.elim
  | .stuck, z => z.elim
theorem wcls_of {Hs H Hs1 H1 : Hp} {rh rh1 : List Addr} {Dn : Ends} {c : Str} {d : D} {e : Env} {m : Mu} (hcs : cs.contains c = true) :
    ∀ {hds : List ExceptHandler} {l : List HS}, HsOk X cs hds l → PostS X.K W Hs H rh Dn (zHs l c d e m) → ∀ dx v sg', Ext Hs H rh Hs1 H1 rh1 → SR X.K Hs1 H1 rh1 sg' e m → XdAt H Hs1 H1 rh1 dx v → Rep X.K Hs1 d v → wCls X.K W Dn (clT X cs l) (.ref (cA X.K c)) (some dx) sg' H1
  | _, _, .nil, z, dx, v, sg', x, s, q, r => z dx v sg' Hs1 H1 rh1 x s q r
  | _, _, .cons (n := n) (h := h) (l := l) hc hn hx hsu rest, z, dx, v, sg', x, s, q, r => by
    have e1 := hx c hcs
    simp only [zHs] at z
    have no : ∀ b, excSub c h.c = b → b = false → PostS X.K W Hs H rh Dn (zHs l c d e m) := fun b h1 h2 => by
      rw [h1, h2] at z
      exact z
    have yes : ∀ b, excSub c h.c = b → b = true → PostS X.K W Hs H rh Dn (hRun h c d e m) := fun b h1 h2 => by
      rw [h1, h2] at z
      exact z
    rcases hn with ⟨_, en⟩ | ⟨y, i, _, en, _, _⟩
    · show wCls X.K W Dn ((.ref (cA X.K h.c), h.i, tsOf X.K cs h) :: clT X cs l) _ _ _ _
      rw [en]
      refine ⟨excSub c h.c, e1, fun hb a ha => ⟨c, dx, hcs, rfl, rfl, Hs1, rh1, e, m, s, ?_⟩, fun hb => wcls_of hcs rest (no _ rfl hb) dx v sg' x s q r⟩
      have z2 := PostS.ext x (yes _ rfl hb)
      unfold hRun at z2
      rw [en] at z2
      rcases anyA_at (f := fun a dd => match h.g c a dd e m with
        | .exc _ _ _ _ => .stuck
        | r => r) a dx with w | w
      · dsimp only at z2
        rw [w] at z2
        cases qg : h.g c a dx e m with
        | exc _ _ _ _ => rw [qg] at z2; exact z2.elim
        | nx _ _ => rw [qg] at z2; exact z2
        | ret _ _ _ => rw [qg] at z2; exact z2
        | brk _ _ => rw [qg] at z2; exact z2
        | cnt _ _ => rw [qg] at z2; exact z2
        | stuck => rw [qg] at z2; exact z2
      · dsimp only at z2
        rw [w] at z2
        exact z2.elim
    · show wCls X.K W Dn ((.ref (cA X.K h.c), h.i, tsOf X.K cs h) :: clT X cs l) _ _ _ _
      rw [en]
      refine ⟨excSub c h.c, e1, fun hb a ha => ?_, fun hb => wcls_of hcs rest (no _ rfl hb) dx v sg' x s q r⟩
      have z2 := yes _ rfl hb
      unfold hRun at z2
      rw [en] at z2
      dsimp only at z2
      -- the error's dict is laid by
      have sm : Same Hs1 (upd Hs1 dx (.xd [(("at" : Str), v)])) := fun b u e => by rw [upd_ne (ne_of_none e q.fro)]; exact e
      have s2 : SC X.K (upd Hs1 dx (.xd [(("at" : Str), v)])) H1 rh1 m := by
        refine ⟨fun b u e => ?_, s.sc.mlen, fun n c e => ?_, s.sc.nd, s.sc.old⟩
        · by_cases hb : b = dx
          · subst hb
            rw [upd_same] at e
            cases e
            exact q.at_
          · rw [upd_ne hb] at e
            exact s.sc.same b u e
        · obtain ⟨a, o, e1, e2, e3, e4⟩ := s.sc.cell n c e
          exact ⟨a, o, e1, by rw [upd_ne (fun z => q.cel (by rw [← z]; exact List.mem_of_getElem? e1))]; exact e2, e3, e4.mono sm (List.prefix_refl _)⟩
      have s3 : SR X.K (upd Hs1 dx (.xd [(("at" : Str), v)])) H1 rh1 sg' e m := ⟨s2, s.len, fun j d' e' => by
        obtain ⟨v', q1, q2⟩ := s.val j d' e'
        exact ⟨v', q1, q2.mono sm (List.prefix_refl _)⟩⟩
      have rx : RepA X.K (upd Hs1 dx (.xd [(("at" : Str), v)])) rh1 (.d (.exn a dx c d)) (.ref a) := by
        show Rep X.K _ _ _
        simp only [Rep]
        exact ⟨trivial, v, upd_same, r.mono sm⟩
      have x' : Ext Hs H rh (upd Hs1 dx (.xd [(("at" : Str), v)])) H1 rh1 := ⟨x.sub.trans sm, x.pre, x.keep, x.there, x.new, fun b hb => by
        by_cases hbx : b = dx
        · exact .inr (.inl (by rw [hbx]; exact q.new))
        · rw [upd_ne hbx] at hb; exact x.froz b hb⟩
      refine ⟨c, dx, hcs, rfl, rfl, _, rh1, e.set i (some (.d (.exn a dx c d))), m, s3.set rx, ?_⟩
      rcases anyA_at (f := fun a dd => (h.g c a dd (e.set i (some (.d (.exn a dd c d)))) m).gone i) a dx with w | w
      · rw [w] at z2
        exact post_gone (PostS.ext x' z2)
      · rw [w] at z2
        exact z2.elim
end
section
variable {X : Cx} {W : WX} {cs : List Str}
theorem ss_try {body : List Stmt} {h₀ : ExceptHandler} {hds : List ExceptHandler} {pos : Pos} {gb : Env → Mu → RS} {l : List HS} (hN : X.N.Nodup) (hs : X.stack = X.env :: X.outer) (hf : X.env.frame = some X.env.locals) (tk : L2N.Takes X W)
    (hb : ∀ (W' : WX) (pn : List (Addr × Obj)) (xe : Value → Shared → Prop), L2N.Takes (X.tr pn xe) W' → PassesOwn (model X.prog X.w) X.A X.env xe → SB (X.tr pn xe) W' body gb)
    (hh : HsOk X cs (h₀ :: hds) l) : SS X W (.Try body (h₀ :: hds) [] [] pos) (zTry cs gb l) := by
  refine ⟨_, ps_try_clauses (tb := fun W' => cB X.K W' gb) hN hs hf tk (fun W' pn xe t p => (hb W' pn xe t p).canon) hh.cls, fun Hs H rh sg et m Dn s z => ⟨Hs, rh, et, m, s, ?_⟩⟩
  unfold zTry at z
  cases q : gb et m with
  | exc c d e1 m1 =>
    rw [q] at z
    dsimp only at z
    by_cases hc : cs.contains c = true
    · rw [if_pos hc] at z
      exact fun dx v sg' Hs' H' rh' x s' hd hv => wcls_of hc hh z dx v sg' x s' hd hv
    · rw [if_neg hc] at z
      exact z.elim
  | nx _ _ => rw [q] at z; exact z
  | ret _ _ _ => rw [q] at z; exact z
  | brk _ _ => rw [q] at z; exact z
  | cnt _ _ => rw [q] at z; exact z
  | stuck => rw [q] at z; exact z
/-! e.at -/
@[simp] def xAt (a dd : Addr) (c : Str) (f : Env → Mu → R Va) : Env → Mu → R Va := fun e m => (f e m).bind fun v m => match v with
  | .d (.exn a' dd' c' x) => if a' = a ∧ dd' = dd ∧ c' = c then .ok (.d x) m else .stuck
  | _ => .stuck
theorem se_at {c : Str} {a dd : Addr} {oe : Obj} {pn : List (Addr × Obj)} {e : Expr} {f : Env → Mu → R Va} {pos : Pos} (T : ErrK X.K X.mg c) (hz : L2N.Zn (.ref (cA X.K c)) (some dd) oe) (hf : ∃ vs, oe.data = .fields vs) (he : SE (X.suite a ((a, oe) :: pn)) W e f)
    (hb : attributeBase e "at" X.env (eval e X.env) = eval e X.env := by rfl) : SE (X.suite a ((a, oe) :: pn)) W (.Attribute e "at" pos) (xAt a dd c f) := by
  obtain ⟨qn, fI, T⟩ := T.ex
  obtain ⟨t, h, r⟩ := he
  refine ⟨_, pe_atErr T hz.zc hf h hb, fun Hs H rh sg et m Q s z => r Hs H rh sg et m _ s (Post.step z fun d m1 v Hs1 H1 rh1 x1 s1 r1 p1 => ?_)⟩
  cases d with
  | l n => exact p1.elim
  | d d =>
    cases d with
    | exn a' dd' c' x =>
      dsimp only at p1
      by_cases hc : a' = a ∧ dd' = dd ∧ c' = c
      · rw [if_pos hc] at p1
        obtain ⟨rfl, rfl, rfl⟩ := hc
        have r1' : Rep X.K Hs1 (.exn a' dd' c' x) v := r1
        simp only [Rep] at r1'
        obtain ⟨rfl, u, e1, e2⟩ := r1'
        exact ⟨rfl, rfl, dd', u, rfl, s1.sc.same _ _ e1, p1 u Hs1 H1 rh1 .refl s1 e2⟩
      · rw [if_neg hc] at p1
        exact p1.elim
    | _ => exact p1.elim
end
end DL
set_option maxHeartbeats 4000000
/-! isinstance -/
namespace PySem.W
open PySem PySem.Spec PySem.Calls PyProof.Rows
section
variable {prog : Program} {w : World} {A : Around} {E : Value → Shared → Prop} {s : Shared} {K : Frag} {x D : Addr} {ox : Obj}
theorem findObj_dataD {C : Addr} {name : Str} {od : Option Obj} {a g : Value} (hc : (clsIn K C).isSome = true) (ha : findIn K (.ref C) name = some (some a)) (hg : specialIn K a "__get__" = some (some g)) (ht : takesIn K a = some true) : findObj K C od name = some (.bind g a) := by
  obtain ⟨cd, hc⟩ := Option.isSome_iff_exists.mp hc
  unfold findObj
  rw [hc, Option.bind_some, ha, Option.bind_some]
  simp [hg, ht]
theorem kin_classD {od : Option Obj} {Q : Option Value → Shared → Prop} (C : L2.ExcC K D) (X : K.In s.heap) (I : InstAt s.heap x ox D od) (h : Q (some (.ref D)) { s with toks := s.toks + 1 }) : wpAny (model prog w) A (getAttr? (.ref x) "__class__") Q E s := by
  have hf : findObj K D od "__class__" = some (.bind (.builtin "getset_descriptor.__get__") (.builtin "object.__class__")) := findObj_dataD (by obtain ⟨cd, hc, _⟩ := any_some C.hd; rw [hc]; rfl) C.ha C.hn C.ht
  obtain ⟨hp, g, d, t, os⟩ := s
  have L0 := I.type (M := model prog w)
  have L1 := looks_findIn (M := model prog w) X C.hg
  have L2 := looks_findIn (M := model prog w) X C.hk
  have L3 := looks_find (M := model prog w) X I hf
  have sub : Looks (model prog w) hp (isInstance (.ref x) (.type "BaseException")) true := L0.andThen (looks_subIn X C.hs)
  have hx0 : (false && onTheHeap (Value.builtin "BaseException.__getattribute__")) = false := rfl
  have hx2 : (Value.builtin "BaseException.__getattribute__" == Value.builtin "object.__getattribute__") = false := by decide +kernel
  have hx1 : (onTheHeap (Value.ref D) && Value.builtin "BaseException.__getattribute__" == Value.builtin "object.__getattribute__") = false := by rw [hx2]; rfl
  unfold getAttr? getAttrBy? getAttrBy
  refine wpAny_bind (wpAny_mkText (wpAny_bind (wpAny_attempt (wpAny_holding (wpAny_bind (L0.at (wpAny_bind (L1.at ?_))))))))
  show wpAny _ _ (if (onTheHeap (Value.ref D) && Value.builtin "BaseException.__getattribute__" == Value.builtin "object.__getattribute__") = true then _ else _) _ _ _
  rw [hx1, if_neg Bool.false_ne_true]
  unfold getAttrByItsOwn hookBefore
  refine wpAny_bind ?_
  rw [if_pos (show onTheHeap (Value.ref D) = true from rfl)]
  refine L2.at ?_
  refine wpAny_bind (wpAny_attempt (wpAny_holding ?_))
  unfold callGetattribute
  rw [hx0, if_neg Bool.false_ne_true]
  unfold boundAndCalled
  rw [PySem.F.excAttr_ValueError.ga.bind (.ref x)]
  refine wpAny_bind (wpAny_pure ?_)
  show wpAny _ _ (call (.builtin "BaseException.__getattribute__") [.ref x, .str "__class__" t]) _ _ _
  refine wpAny_call (codeAny_call_builtin PySem.F.excAttr_ValueError.ga.plain PySem.F.entry_bexc_ga ?_)
  refine @check_slot (model prog w) _ _ ⟨hp, g, d, t + 1, os⟩ "BaseException.__getattribute__" "BaseException" "__getattribute__" (.ref x) [.str "__class__" t] [] _ (by decide +kernel) (by decide +kernel) sub (PySem.F.args_bexc_ga (.ref x) (.str "__class__" t)) ?_
  unfold Builtin.«object.__getattribute__»
  refine wpAny_bind (wpAny_of_eq (a := ((Value.ref x : Value), [Value.str "__class__" t])) (by first | rfl | (simp only [slotArgs]; rfl)) ?_)
  refine wpAny_bind (wpAny_pure (wpAny_bind (L0.at (wpAny_bind (L3.at ?_)))))
  show wpAny _ _ (holding [Value.builtin "object.__class__"] (call (.builtin "getset_descriptor.__get__") [.builtin "object.__class__", .ref x, .ref D]) >>= ret) _ _ _
  refine wpAny_bind (wpAny_holding (wpAny_call (class_get (s := ⟨hp, g, d, t + 1, os⟩) (ox := ox) (od := od) X I C.hm ?_)))
  refine wpAny_pure ?_
  show wpAny _ _ (handedOut (.ref D)) _ _ _
  rw [handedOut_of (v := .ref D) rfl]
  first
    | exact wpAny_pure (wpAny_pure h)
    | exact wpAny_pure h
    | exact wpAny_pure (wpAny_bind (wpAny_pure (wpAny_pure h)))
theorem kitx_excD {od : Heap → Option Obj} (C : L2.ExcC K D) : KitX K (.ref x) (.ref D) (fun h => InstAt h x ox D (od h)) where
  ty := fun _ _ _ I => I.type
  it := fun _ _ X _ => by
    obtain ⟨cdD, hcD, _⟩ := any_some C.hd
    unfold clsIn at hcD
    split at hcD
    · rename_i c' d' cd' sl' ho
      intro A' Q' E' s' k q
      unfold isType loadHead
      exact wpAny_bind (wpAny_loadPart (k _ _ (X _ _ ho)) (wpAny_pure q))
    · cases hcD
  ne := fun h tp dd its n sl X htp => by
    obtain ⟨cdD, hcD, _⟩ := any_some C.hd
    refine Bool.eq_false_iff.mpr fun q => ?_
    have e : D = tp := Value.ref.inj (beq_iff_eq.mp q)
    subst e
    unfold clsIn at hcD
    split at hcD
    · rename_i c' d' cd' sl' ho
      have z := (X _ _ ho).symm.trans htp
      cases z
    · cases hcD
  ca := fun X I k => kin_classD C X I k
end
end PySem.W
namespace DL
open PySem PySem.Spec PyProof.Rows L2
abbrev bTys : List String := ["NoneType", "bool", "int", "str", "tuple", "list", "dict"]
inductive Kd where
  | b (n : String) | o (c : Str)
@[simp] def kdA (m : Mu) : Va → Option Kd
  | .d .non => some (.b "NoneType")
  | .d (.bl _) => some (.b "bool")
  | .d (.int _) => some (.b "int")
  | .d (.str _) => some (.b "str")
  | .d (.tup _) => some (.b "tuple")
  | .d (.lst _) => some (.b "list")
  | .d (.dct _) => some (.b "dict")
  | .d (.obj c _) => some (.o c)
  | .l n => (match m[n]? with
    | some (some (.lst _)) => some (.b "list")
    | some (some (.dct _)) => some (.b "dict")
    | some (some (.obj c _)) => some (.o c)
    | _ => none)
  | _ => none
/-- what the written part says of own classes -/
structure IsiK (K : PySem.W.Frag) (cs : List Str) : Prop where
  ty : ∀ T ∈ cs, ∀ a ∈ bTys, PySem.W.kitOne K (.type a) (.ref (cA K T)) = some false
  ob : ∀ c ∈ cs, Cls K (cA K c) ∧ PySem.W.findIn K (.ref (cA K c)) "__class__" = some (some (.builtin "object.__class__")) ∧ PySem.W.mroIn K (cA K c) (.type "object") = some true
  oc : ∀ c ∈ cs, ∀ T ∈ cs, PySem.W.kitOne K (.ref (cA K c)) (.ref (cA K T)) = some (c == T)
  ot : ∀ c ∈ cs, ∀ T ∈ bTys, PySem.W.kitOne K (.ref (cA K c)) (.type T) = some false
  dn : PySem.W.specialIn K (.builtin "object.__class__") "__get__" = some (some (.builtin "getset_descriptor.__get__"))
  dt : PySem.W.takesIn K (.builtin "object.__class__") = some true
theorem IsiK.nil {K : PySem.W.Frag} (dn : PySem.W.specialIn K (.builtin "object.__class__") "__get__" = some (some (.builtin "getset_descriptor.__get__"))) (dt : PySem.W.takesIn K (.builtin "object.__class__") = some true) : IsiK K [] :=
  ⟨fun _ h => (by cases h), fun _ h => (by cases h), fun _ h => (by cases h), fun _ h => (by cases h), dn, dt⟩
@[simp] def isTy (cs : List Str) : Kd → D → Option Bool
  | .b n, .ty T => if bTys.contains T = true then some (n == T || (n == "bool" && T == "int")) else none
  | .b _, .cls T => if cs.contains T = true then some false else none
  | .o c, .ty T => if bTys.contains T = true ∧ cs.contains c = true then some false else none
  | .o c, .cls T => if cs.contains c = true ∧ cs.contains T = true then some (c == T) else none
  | _, _ => none
/-- the class as a value -/
def kdV (K : PySem.W.Frag) : Kd → Value
  | .b n => .type n
  | .o c => .ref (cA K c)
def clV (K : PySem.W.Frag) : D → Value
  | .ty n => .type n
  | .cls c => .ref (cA K c)
  | _ => .none
section
variable {K : PySem.W.Frag} {cs : List Str} {Hs H : Hp} {rh : List Addr} {m : Mu}
theorem kit_bb : ∀ a ∈ bTys, ∀ b ∈ bTys, kitB a b = some (a == b || (a == "bool" && b == "int")) := by decide +kernel
theorem isTy_kit (I : IsiK K cs) {k : Kd} {t : D} {b : Bool} (hk : ∀ n, k = .b n → n ∈ bTys) (e : isTy cs k t = some b) : PySem.W.kitOne K (kdV K k) (clV K t) = some b := by
  cases k with
  | b n =>
    cases t with
    | ty T =>
      unfold isTy at e
      dsimp only at e
      by_cases h : bTys.contains T = true
      · rw [if_pos h] at e
        cases e
        exact kit_ty (kit_bb n (hk n rfl) T (by simpa using h))
      · rw [if_neg h] at e; cases e
    | cls T =>
      unfold isTy at e
      dsimp only at e
      by_cases h : cs.contains T = true
      · rw [if_pos h] at e
        cases e
        exact I.ty T (by simpa using h) n (hk n rfl)
      · rw [if_neg h] at e; cases e
    | _ => cases e
  | o c =>
    cases t with
    | ty T =>
      unfold isTy at e
      dsimp only at e
      by_cases h : bTys.contains T = true ∧ cs.contains c = true
      · rw [if_pos h] at e
        cases e
        exact I.ot c (by simpa using h.2) T (by simpa using h.1)
      · rw [if_neg h] at e; cases e
    | cls T =>
      unfold isTy at e
      dsimp only at e
      by_cases h : cs.contains c = true ∧ cs.contains T = true
      · rw [if_pos h] at e
        cases e
        exact I.oc c (by simpa using h.1) T (by simpa using h.2)
      · rw [if_neg h] at e; cases e
    | _ => cases e
theorem isTy_cls {k : Kd} {t : D} {b : Bool} (e : isTy cs k t = some b) {v : V} (r : Rep K Hs t v) : ClsV v (clV K t) := by
  cases t with
  | ty T =>
    have r' : v = .ty T := by simpa only [Rep] using r
    subst r'
    exact .ty T
  | cls T =>
    have r' : v = .ref (cA K T) := by simpa only [Rep] using r
    subst r'
    exact .own _
  | _ => cases k <;> cases e
theorem kd_b {x : Va} {k : Kd} (e : kdA m x = some k) : ∀ n, k = .b n → n ∈ bTys := by
  intro n hn
  subst hn
  cases x with
  | d x => cases x <;> simp_all
  | l i =>
    simp only [kdA] at e
    split at e <;> simp_all
theorem kd_ty (I : IsiK K cs) (s : SC K Hs H rh m) {x : Va} {k : Kd} {v : V} (hk : ∀ c, k = .o c → cs.contains c = true) (r : RepA K Hs rh x v) (e : kdA m x = some k) : TyX K H v (kdV K k) := by
  have ins : ∀ {a dx : Addr} {c : Str} {fs : List (Str × V)}, cs.contains c = true → H a = some (.ins (cA K c) dx fs) → TyX K H (.ref a) (.ref (cA K c)) := fun {a dx c fs} hc h => by
    obtain ⟨h1, h2, h3⟩ := I.ob c (by simpa using hc)
    exact .base (.ins h h1 h2 I.dn I.dt h3)
  cases x with
  | d x =>
    cases x with
    | non => cases e; rw [va_non r]; exact .base .non
    | bl b => cases e; rw [va_bl r]; exact .base (.bl b)
    | int b => cases e; rw [va_int r]; exact .base (.int b)
    | str b => cases e; rw [va_str r]; exact .base (.str b)
    | tup ds =>
      cases e
      have r' : Rep K Hs (.tup ds) v := r
      simp only [Rep] at r'
      obtain ⟨a, vs, rfl, e2, e3⟩ := r'
      rcases e2 with (h | ⟨o, h⟩) | ⟨o, its, n, hk, hc, _⟩
      · exact .base (.tup (s.same _ _ h))
      · exact .fTuple (s.same _ _ h)
      · exact .kTuple hk hc
    | lst ds =>
      cases e
      have r' : Rep K Hs (.lst ds) v := r
      simp only [Rep] at r'
      obtain ⟨a, vs, rfl, e2, e3⟩ := r'
      exact .base (.lst (s.same _ _ e2))
    | dct ds =>
      cases e
      have r' : Rep K Hs (.dct ds) v := r
      simp only [Rep] at r'
      obtain ⟨a, o, ws, rfl, e2, ⟨kvs, rfl, _⟩, e4⟩ := r'
      exact .base (.dK (s.same _ _ e2))
    | obj c fs =>
      cases e
      have r' : Rep K Hs (.obj c fs) v := r
      simp only [Rep] at r'
      obtain ⟨a, dx, vs, rfl, e2, e3⟩ := r'
      exact ins (hk c rfl) (s.same _ _ e2)
    | _ => cases e
  | l i =>
    obtain ⟨a, ha, rfl⟩ := r
    simp only [kdA] at e
    split at e
    · rename_i ds q
      cases e
      obtain ⟨a', o, e1, e2, e3, vs, rfl, e4⟩ := s.cell i _ q
      rw [ha] at e1; cases e1
      exact .base (.lst e3)
    · rename_i ds q
      cases e
      obtain ⟨a', o, e1, e2, e3, ws, ⟨kvs, rfl, _⟩, e4⟩ := s.cell i _ q
      rw [ha] at e1; cases e1
      exact .base (.dK e3)
    · rename_i c fs q
      cases e
      obtain ⟨a', o, e1, e2, e3, dx, vs, rfl, e4⟩ := s.cell i _ q
      rw [ha] at e1; cases e1
      exact ins (hk c rfl) e3
    · cases e
end
@[simp] def isAny (cs : List Str) (k : Kd) : List D → Option Bool
  | [] => some false
  | t :: r => match isTy cs k t with
    | some true => some true
    | some false => isAny cs k r
    | none => none
@[simp] def okK (cs : List Str) : Kd → Bool
  | .b _ => true
  | .o c => cs.contains c
@[simp] def isAll (cs : List Str) (k : Kd) : List D → Bool
  | [] => true
  | t :: r => (isTy cs k t).isSome && isAll cs k r
@[simp] def oIs (cs : List Str) : List Va → Mu → R Va := fun as m => match as with
  | [x, .d (.tup ts)] => (match kdA m x with
    | some k => if okK cs k = true ∧ isAll cs k ts = true then (match isAny cs k ts with
      | some b => .ok (.d (.bl b)) m
      | none => .stuck) else .stuck
    | none => .stuck)
  | [x, .d t] => (match kdA m x with
    | some k => if okK cs k = true then (match isTy cs k t with
      | some b => .ok (.d (.bl b)) m
      | none => .stuck) else .stuck
    | none => .stuck)
  | _ => .stuck
/-- the tuple as it stands -/
def rIsiS (K : PySem.W.Frag) : List V → Hp → VK → Prop := fun xs H Q => ∃ (x : V) (tp : Addr) (cs : List V) (t : Value) (us : List Value) (b : Bool), xs = [x, .ref tp] ∧ SqT K H tp cs ∧ Paired ClsV cs us ∧ TyX K H x t ∧ PySem.W.kitAny K t us = some b ∧ Q (.bl b) H
theorem call_isiS {X : Cx} : CallR X (.builtin "isinstance") (rIsiS X.K) := by
  intro pins s σ H xs us Q I r h
  obtain ⟨x, tp, cs, t, ws, b, rfl, hT, k, ty, e, q⟩ := h
  obtain ⟨u1, u2, rfl, r1, r2⟩ := vals2 r
  cases (show u2 = Value.ref tp from r2)
  obtain ⟨P, Z, p, hx⟩ := kit_of I r1 ty
  obtain ⟨its, rv, ⟨o, h1, h2, n, h3⟩, _⟩ := I.tuple hT
  have e3 := ClsV.all k rv
  subst e3
  obtain ⟨oc, od, dt, sl⟩ := o
  simp only at h2 h3
  subst h2 h3
  exact PySem.W.kia_tup Z I.kIn p h1 e hx fun tk => ⟨.bl b, H, I.tok tk, rfl, q⟩
theorem isAny_kit {K : PySem.W.Frag} {cs : List Str} {Hs : Hp} (I : IsiK K cs) {k : Kd} (hk : ∀ n, k = .b n → n ∈ bTys) : ∀ {ts : List D} {vs : List V} {b : Bool}, isAll cs k ts = true → isAny cs k ts = some b → Reps K Hs ts vs → ∃ us, Paired ClsV vs us ∧ PySem.W.kitAny K (kdV K k) us = some b
  | [], vs, b, _, e, r => by
    cases e
    rw [reps_nil] at r
    subst r
    exact ⟨[], .nil, kitAny_nil⟩
  | t :: ts, vs, b, ha, e, r => by
    simp only [Reps] at r
    obtain ⟨v, vs', rfl, r1, r2⟩ := r
    simp only [isAll, Bool.and_eq_true] at ha
    obtain ⟨c, hc⟩ := Option.isSome_iff_exists.mp ha.1
    have h1 := isTy_kit I hk hc
    have h2 := isTy_cls hc r1
    simp only [isAny, hc] at e
    have rest : ∀ {ts : List D} {vs : List V}, isAll cs k ts = true → Reps K Hs ts vs → ∃ us, Paired ClsV vs us := by
      intro ts
      induction ts with
      | nil => intro vs _ r; rw [reps_nil] at r; subst r; exact ⟨[], .nil⟩
      | cons t ts ih =>
        intro vs ha r
        simp only [Reps] at r
        obtain ⟨v, vs', rfl, r1, r2⟩ := r
        simp only [isAll, Bool.and_eq_true] at ha
        obtain ⟨c, hc⟩ := Option.isSome_iff_exists.mp ha.1
        obtain ⟨us, hu⟩ := ih ha.2 r2
        exact ⟨_ :: us, .cons (isTy_cls hc r1) hu⟩
    cases c with
    | true =>
      cases e
      obtain ⟨us, hu⟩ := rest ha.2 r2
      exact ⟨_ :: us, .cons h2 hu, kitAny_cons h1 (fun z => nomatch z) fun _ => rfl⟩
    | false =>
      obtain ⟨us, hu, q⟩ := isAny_kit I hk ha.2 e r2
      exact ⟨_ :: us, .cons h2 hu, kitAny_cons h1 (fun _ => q) fun z => nomatch z⟩
theorem cs_is {X : Cx} {cs : List Str} (I : IsiK X.K cs) : CalS X (.builtin "isinstance") (oIs cs) := by
  refine ⟨_, CallR.or call_isi call_isiS, fun W Hs H rh sg et m as vs Q s r p => ?_⟩
  unfold oIs at p
  split at p
  · rename_i x ts
    obtain ⟨v, u, rfl, r1, r2⟩ := as2 r
    cases q : kdA m x with
    | none => rw [q] at p; exact p.elim
    | some k =>
      rw [q] at p
      dsimp only at p
      by_cases h : okK cs k = true ∧ isAll cs k ts = true
      · rw [if_pos h] at p
        cases q2 : isAny cs k ts with
        | none => rw [q2] at p; exact p.elim
        | some b =>
          rw [q2] at p
          have r2' : Rep X.K Hs (.tup ts) u := r2
          simp only [Rep] at r2'
          obtain ⟨a, ws, rfl, e2, e3⟩ := r2'
          obtain ⟨us, hu, hq⟩ := isAny_kit I (kd_b q) h.2 q2 e3
          refine .inr ⟨v, a, ws, _, us, b, rfl, Same.seqT s.sc.same e2, hu, kd_ty I s.sc (fun c hc => by subst hc; exact h.1) r1 q, hq, Post.ok_ p .refl s mk_bl⟩
      · rw [if_neg h] at p; exact p.elim
  · rename_i x t _
    obtain ⟨v, u, rfl, r1, r2⟩ := as2 r
    cases q : kdA m x with
    | none => rw [q] at p; exact p.elim
    | some k =>
      rw [q] at p
      dsimp only at p
      by_cases h : okK cs k = true
      · rw [if_pos h] at p
        cases q2 : isTy cs k t with
        | none => rw [q2] at p; exact p.elim
        | some b =>
          rw [q2] at p
          exact .inl ⟨v, u, _, _, b, rfl, isTy_cls q2 r2, kd_ty I s.sc (fun c hc => by subst hc; exact h) r1 q, isTy_kit I (kd_b q) q2, Post.ok_ p .refl s mk_bl⟩
      · rw [if_neg h] at p; exact p.elim
  · exact p.elim
section
variable {X : Cx} {W : WX}
/-- a built-in type's name -/
theorem se_tyN {x : Str} {T : String} {pos : Pos} (hg : Gl X x) (hm : X.mg x = none) (hv : bootBuiltins x = some (.type T)) (hn : x ≠ "__name__" := by decide) (hd : (x == ("__debug__" : Str)) = false := by decide) : SE X W (.Name x pos) (xC (.ty T)) :=
  se_c (pe_bltn hg hm hv (v := .ty T) rfl hn hd) fun _ => by simp only [Rep]
/-- an own class's name -/
theorem se_clsN {x : Str} {pos : Pos} (hg : Gl X x) (hm : X.mg x = some (.ref (cA X.K x))) (hd : (x == ("__debug__" : Str)) = false := by decide) : SE X W (.Name x pos) (xC (.cls x)) :=
  se_c (pe_glob hg hm (v := .ref (cA X.K x)) rfl hd) fun _ => by simp only [Rep]
/-- isinstance(error, C) within the suite -/
structure ExcK (K : PySem.W.Frag) (c : Str) (cs : List Str) (ts : List String) : Prop where
  ec : ExcC K (cA K c)
  oc : ∀ T ∈ cs, PySem.W.kitOne K (.ref (cA K c)) (.ref (cA K T)) = some (excSub c T)
  ot : ∀ T ∈ ts, PySem.W.kitOne K (.ref (cA K c)) (.type T) = some false
@[simp] def oIsE (c : Str) (a dd : Addr) (cs : List Str) (ts : List String) : List Va → Mu → R Va := fun as m => match as with
  | [.d (.exn a' dd' _ _), .d (.cls T)] => if a' = a ∧ dd' = dd ∧ cs.contains T = true then .ok (.d (.bl (excSub c T))) m else .stuck
  | [.d (.exn a' dd' _ _), .d (.ty T)] => if a' = a ∧ dd' = dd ∧ ts.contains T = true then .ok (.d (.bl false)) m else .stuck
  | _ => .stuck
def rIsD (K : PySem.W.Frag) (D a dd : Addr) : List V → Hp → VK → Prop := fun xs H Q => ∃ (c : V) (cv : Value) (b : Bool), xs = [.ref a, c] ∧ ClsV c cv ∧ PySem.W.kitOne K (.ref D) cv = some b ∧ (∃ u, H dd = some (.xd [(("at" : Str), u)])) ∧ Q (.bl b) H
theorem call_isD {a D dd : Addr} {oe : Obj} {pn : List (Addr × Obj)} (C : ExcC X.K D) (hz : Zc (.ref D) (some dd) oe) (hf : ∃ vs, oe.data = .fields vs) : CallR (X.suite a ((a, oe) :: pn)) (.builtin "isinstance") (rIsD X.K D a dd) := by
  intro pins s σ H xs us Q I r h
  obtain ⟨c, cv, b, rfl, hcv, e, ⟨u, ea⟩, q⟩ := h
  obtain ⟨u1, u2, rfl, r1, r2⟩ := vals2 r
  obtain rfl : u1 = Value.ref a := r1
  have ec := hcv.eq r2
  subst ec
  obtain ⟨hget, _⟩ := I.pin (a, oe) (List.mem_append.mpr (.inl List.mem_cons_self))
  obtain ⟨vs, hv⟩ := hf
  have hx : ObjOk X.prog X.w H s.heap dd (.xd [(("at" : Str), u)]) := I.hok dd _ ea
  obtain ⟨mA, hns, hr⟩ := hx
  obtain ⟨od, ho, hl⟩ := lookIn_ns hns
  have J : PySem.W.InstAt s.heap a oe D (some od) := ⟨hget, hz.1, by unfold PySem.W.notCls; rw [hv] <;> rfl, by rw [hz.2]; exact ho⟩
  exact PySem.W.kia_one (PySem.W.kitx_excD (od := fun _ => some od) C) I.kIn J e (fun z => nomatch z) fun tk => ⟨.bl b, H, I.kept (t' := tk) fun _ _ z => z, rfl, q⟩
theorem cs_isE {c : Str} {cs : List Str} {ts : List String} {a dd : Addr} {oe : Obj} {pn : List (Addr × Obj)} (k : ExcK X.K c cs ts) (hz : Zc (.ref (cA X.K c)) (some dd) oe) (hf : ∃ vs, oe.data = .fields vs) : CalS (X.suite a ((a, oe) :: pn)) (.builtin "isinstance") (oIsE c a dd cs ts) := by
  refine ⟨_, call_isD k.ec hz hf, fun W Hs H rh sg et m as vs Q s r p => ?_⟩
  have rd : ∀ {a' dd' : Addr} {c' : Str} {x : D} {v : V}, a' = a → dd' = dd → RepA X.K Hs rh (.d (.exn a' dd' c' x)) v → v = .ref a ∧ ∃ u, H dd = some (.xd [(("at" : Str), u)]) := fun {a' dd' c' x v} h1 h2 r => by
    have r' : Rep X.K Hs (.exn a' dd' c' x) v := r
    simp only [Rep] at r'
    obtain ⟨e1, u, e2, _⟩ := r'
    subst h1 h2
    exact ⟨e1, u, s.sc.same _ _ e2⟩
  unfold oIsE at p
  split at p
  · rename_i a' dd' c' x T
    obtain ⟨v, u, rfl, r1, r2⟩ := as2 r
    by_cases h : a' = a ∧ dd' = dd ∧ cs.contains T = true
    · rw [if_pos h] at p
      obtain ⟨rfl, hu⟩ := rd h.1 h.2.1 r1
      have r2' : u = .ref (cA X.K T) := by
        have z : Rep X.K Hs (.cls T) u := r2
        simpa only [Rep] using z
      subst r2'
      exact ⟨_, _, _, rfl, .own _, k.oc T (by simpa using h.2.2), hu, Post.ok_ p .refl s mk_bl⟩
    · rw [if_neg h] at p; exact p.elim
  · rename_i a' dd' c' x T
    obtain ⟨v, u, rfl, r1, r2⟩ := as2 r
    by_cases h : a' = a ∧ dd' = dd ∧ ts.contains T = true
    · rw [if_pos h] at p
      obtain ⟨rfl, hu⟩ := rd h.1 h.2.1 r1
      have r2' : u = .ty T := by
        have z : Rep X.K Hs (.ty T) u := r2
        simpa only [Rep] using z
      subst r2'
      exact ⟨_, _, _, rfl, .ty _, k.ot T (by simpa using h.2.2), hu, Post.ok_ p .refl s mk_bl⟩
    · rw [if_neg h] at p; exact p.elim
  · exact p.elim
end
end DL
set_option maxHeartbeats 4000000
namespace DL
open PySem PySem.Spec PyProof.Rows L2
/-! ## Where an exception is handled: defs called there, for over range -/
theorem spP_run {X : Cx} {E : XK} {body : List Stmt} {g : Env → Mu → RS} {N : List Str} {n : Nat} {F : List D → R0} (hb : SB X (fun c d _ H => E c d H) body g)
    (hF : ∀ ds, ds.length = n → F ds ≠ .stuck → outP (g (startD N.length (ds.map .d)) []) = F ds) {vs : List V} {H : Hp} {Q : VK} (h : SpP X.K n F vs H Q E) :
    ∃ t, PSs X body t ∧ t { nx := fun _ H' => Q .non H', rt := Q } (L2.start N vs) H := by
  obtain ⟨hl, Hs, ds, sm, rp, z⟩ := h
  obtain ⟨t, ht, r⟩ := hb
  have sc : SC X.K Hs H [] [] := ⟨sm, rfl, fun n c e => by simp at e, List.nodup_nil, fun a ha => by cases ha⟩
  refine ⟨t, ht, r Hs H [] _ _ [] _ (sr_start sc (repAs_d rp)) ?_⟩
  have hns : F ds ≠ .stuck := fun q => by rw [q] at z; exact z
  have e := hF ds (by rw [← rp.length]; exact hl) hns
  have rh0 : ∀ {Hs' H' : Hp} {rh' : List Addr}, Ext Hs H [] Hs' H' rh' → Same H H' ∧ (∀ b, Hs' b ≠ none → Hs b ≠ none ∨ H b = none) := fun x => ⟨fun b o q => x.keep b o q (by simp), fun b q => (x.froz b q).imp id fun z => z.elim id fun q => absurd q (by simp)⟩
  show PostS X.K (fun c d _ H => E c d H) Hs H [] _ (g (startD N.length (ds.map .d)) [])
  cases q : g (startD N.length (ds.map .d)) [] with
  | nx e1 m1 =>
    rw [q] at e
    have e' : R0.ok .non = F ds := e
    rw [← e'] at z
    exact fun sg' Hs' H' rh' x s' => z .non Hs' H' x.sub s'.sc.same (rh0 x).1 (rh0 x).2 (rnon _ _)
  | ret v e1 m1 =>
    rw [q] at e
    cases v with
    | d v =>
      have e' : R0.ok v = F ds := e
      rw [← e'] at z
      exact fun u sg' Hs' H' rh' x s' hv => z u Hs' H' x.sub s'.sc.same (rh0 x).1 (rh0 x).2 hv
    | l i =>
      intro u sg' Hs' H' rh' x s' hv
      obtain ⟨a, ha, rfl⟩ := hv
      have fin : ∀ (c : Ce), m1[i]? = some (some c) → ∃ o, H' a = some o ∧ Hs' a = none ∧ RepO X.K Hs' rh' c o := fun c hc => by
        obtain ⟨a', o, e1, e2, e3, e4⟩ := s'.sc.cell i c hc
        rw [ha] at e1
        cases e1
        exact ⟨o, e3, e2, e4⟩
      have up : ∀ o, H' a = some o → Hs' a = none → Same Hs (upd Hs' a o) ∧ Same (upd Hs' a o) H' ∧ (∀ b, upd Hs' a o b ≠ none → Hs b ≠ none ∨ H b = none) ∧ Same Hs' (upd Hs' a o) := fun o h1 h2 => by
        have sm2 : Same Hs' (upd Hs' a o) := fun b u e => by rw [upd_ne (ne_of_none e h2)]; exact e
        refine ⟨x.sub.trans sm2, fun b u e => ?_, fun b hb2 => ?_, sm2⟩
        · by_cases hba : b = a
          · subst hba; rw [upd_same] at e; cases e; exact h1
          · rw [upd_ne hba] at e; exact s'.sc.same b u e
        · by_cases hba : b = a
          · subst hba
            rcases x.new b (List.mem_of_getElem? ha) with z | z
            · cases z
            · exact .inr z
          · rw [upd_ne hba] at hb2; exact (rh0 x).2 b hb2
      have e' : (match m1[i]? with
        | some (some (.lst ds)) => R0.ok (.lst ds)
        | some (some (.dct kvs)) => .ok (.dct kvs)
        | _ => .stuck) = F ds := e
      cases qm : m1[i]? with
      | none => rw [qm] at e'; exact absurd e'.symm hns
      | some oc =>
        rw [qm] at e'
        cases oc with
        | none => exact absurd e'.symm hns
        | some c =>
          obtain ⟨o, h1, h2, h3⟩ := fin c qm
          obtain ⟨u1, u2, u3, u4⟩ := up o h1 h2
          cases c with
          | lst xs =>
            dsimp only at e'
            rw [← e'] at z
            obtain ⟨vs', rfl, h4⟩ := h3
            refine z (.ref a) (upd Hs' a (.lst vs')) H' u1 u2 (rh0 x).1 u3 ?_
            simp only [Rep]
            exact ⟨a, vs', rfl, upd_same, h4.mono u4⟩
          | dct xs =>
            dsimp only at e'
            rw [← e'] at z
            obtain ⟨ws, h4, h5⟩ := h3
            refine z (.ref a) (upd Hs' a o) H' u1 u2 (rh0 x).1 u3 ?_
            simp only [Rep]
            exact ⟨a, o, ws, rfl, upd_same, h4, h5.mono u4⟩
          | obj c fs => exact absurd e'.symm hns
  | brk e1 m1 => rw [q] at e; exact absurd e.symm hns
  | cnt e1 m1 => rw [q] at e; exact absurd e.symm hns
  | exc c d e1 m1 =>
    rw [q] at e
    have e' : R0.exc c d = F ds := e
    rw [← e'] at z
    exact fun dx v sg' Hs' H' rh' x s' hd hv => z dx v Hs' H' x.sub s'.sc.same (rh0 x).1 (rh0 x).2 ⟨hd.new, hd.fro, by simp, hd.at_⟩ hv
  | stuck => rw [q] at e; exact absurd e.symm hns
structure FnPH (P : Program) (w : World) (K : PySem.W.Frag) (mg : Str → Option Value) (base : Heap) (k : Nat) (x : Str) (n : Nat) (F : List D → R0) : Prop where
  ex : ∃ f fd ps, mg x = some (.ref f) ∧ PySem.W.keepIn K (.ref f) = true ∧ Binds K fd ps [] ∧ L2H.FnH P w K mg base (L2N.CX P w) k f fd ps (SpP K n F)
abbrev cxHD (P : Program) (w : World) (K : PySem.W.Frag) (mg : Str → Option Value) (base : Heap) (N : List Str) (qual : Str) (scope : Scope) (f : Addr) (cd : Value) (A : Around) (outer : List PySem.Env) (s : Shared) (H : Hp) (E : XK) (p : Addr × Obj) : Cx := L2H.cxH (L2N.CX P w) P w K mg base N qual scope f cd A outer s H E p
structure CokH (X : Cx) (W : WX) (k : Nat) : Prop where
  tk : L2N.Takes X W
  po : PassesOwn (model X.prog X.w) X.A X.env X.xe
  hr : L2H.RoomH k X.A
  hot : L2H.HotC X
theorem okPH {P : Program} {w : World} {K : PySem.W.Frag} {mg : Str → Option Value} {base : Heap} {x name qual : Str} {st : Stmt} {N ps : List Str} {k n : Nat} {F : List D → R0} {g : Env → Mu → RS} (h : DefOk K mg x name qual st) (S : FnScope N ps (defScope st)) (hn : ps.length = n)
    (hb : ∀ (kV doc pm : Value) (an : Option Addr) (cdv ct : Value) (us : List Value), us.length = ps.length → bindArgs (PySem.W.fnOf name qual (defArgs st) (defBody st) (defScope st) .none kV doc pm an cdv ct) ⟨us, []⟩ = pure (ps.zip us))
    (sb : ∀ (f : Addr) cd A outer s H E p, CokH (cxHD P w K mg base N qual (defScope st) f cd A outer s H E p) (fun c d _ H => E c d H) k → SB (cxHD P w K mg base N qual (defScope st) f cd A outer s H E p) (fun c d _ H => E c d H) (defBody st) g)
    (hF : ∀ ds, ds.length = n → F ds ≠ .stuck → outP (g (startD N.length (ds.map .d)) []) = F ds) : FnPH P w K mg base (k + 1) x n F := by
  obtain ⟨f, fd, hm, F0⟩ := h.ex
  have hbd := F0.bindsN hb
  obtain ⟨oc, od, dV, kV, doc, pm, an, cdv, ct, osl, rfl, lk, hcd, _, _⟩ := F0.ex
  refine ⟨f, _, ps, hm, F0.kp, hbd, L2H.fn_ofH lk hcd S (fun vs H Q E h => h.1.trans hn.symm) fun A outer s H vs Q E p hot hr h => ?_⟩
  exact spP_run (X := cxHD P w K mg base N qual (defScope st) f cdv A outer s H E p) (sb f cdv A outer s H E p ⟨L2N.takes_of (X := cxHD P w K mg base N qual (defScope st) f cdv A outer s H E p) rfl rfl rfl rfl, passes_of (X := cxHD P w K mg base N qual (defScope st) f cdv A outer s H E p) rfl, hr, ⟨p, hot, List.mem_singleton.mpr rfl⟩⟩) hF h
section
variable {X : Cx} {W : WX} {k n : Nat} {x : Str} {p pos : Pos} {e : Expr} {es : List Expr} {g : Env → Mu → R (List Va)}
theorem se_callPH {F : List D → R0} (hf : FnPH X.prog X.w X.K X.mg X.base k x n F) (hr : L2H.RoomH k X.A) (hot : L2H.HotC X) (tk : L2N.Takes X W) (hg : Gl X x) (ha : SA X W (e :: es) g) (hdb : (x == ("__debug__" : Str)) = false := by decide)
    (he : starEach (e :: es) X.env = (false, eval e X.env) :: starEach es X.env := by rfl) (hpl : (backTo pos (starEach es X.env)).any (·.1) = false := by rfl) : SE X W (.Call (.Name x p) (e :: es) [] pos) (xCallP n F g) := by
  obtain ⟨f, fd, ps, hm, hk, hb, ok⟩ := hf.ex
  obtain ⟨t, ht, r⟩ := ha
  refine ⟨_, L2H.pe_callH ok hr hot hg hm hk hb (fun sg => L2N.passAt tk sg) ht hdb he hpl, fun Hs H rh sg et m Q s z => ?_⟩
  unfold xCallP at z
  refine r Hs H rh sg et m _ s (Post.step z fun as m1 vs Hs1 H1 rh1 x1 s1 r1 p1 => ?_)
  by_cases hl : as.length = n
  · rw [if_pos hl] at p1
    exact postP_of s1 r1 (by rw [r1.length, hl]) p1
  · rw [if_neg hl] at p1
    exact p1.elim
/-- a part that is not come to -/
theorem ss_dead {st : Stmt} : SS X W st (fun _ _ => .stuck) := ⟨fun _ _ _ => False, ⟨fun _ _ _ _ _ _ h => h.elim⟩, fun _ _ _ _ _ _ _ _ z => z⟩
theorem se_dead {e : Expr} : SE X W e (fun _ _ => .stuck) := ⟨fun _ _ _ => False, ⟨fun _ _ _ _ _ _ h => h.elim⟩, fun _ _ _ _ _ _ _ _ z => z⟩
end
theorem suite_hot {X : Cx} {a : Addr} {oe : Obj} {pn : List (Addr × Obj)} {cls : Value} {d : Option Addr} (hz : L2N.Zn cls d oe) (hf : ∃ vs, oe.data = .fields vs) : L2H.HotC (X.suite a ((a, oe) :: pn)) := by
  obtain ⟨vs, hv⟩ := hf
  exact ⟨(a, oe), ⟨rfl, vs, hv, hz.2.2 vs hv⟩, List.mem_cons_self ..⟩
theorem suite_takes {X : Cx} {W : WX} (h : ∀ cls d sg H, ¬ W cls d sg H) : L2N.Takes X W := fun _ _ x => by
  obtain ⟨_, _, _, _, _, _, _, _, _, _, _, _, _, _, _, _, z⟩ := x
  exact (h _ _ _ _ z).elim
def SIH (X : Cx) (W : WX) (tg e : Expr) (f : Env → Mu → R (List Va)) : Prop := ∃ t, L2H.PIH X tg e t ∧ ∀ Hs H rh sg et m Q, SR X.K Hs H rh sg et m → PostI X.K W Hs H rh sg et Q (f et m) → t sg H Q
section
variable {X : Cx} {W : WX} {tg iter : Expr} {body : List Stmt} {pos : Pos} {f : Env → Mu → R (List Va)} {t : Va → Env → Mu → RS} {b : Env → Mu → RS}
theorem ss_forH (hp : PassesOwn (model X.prog X.w) X.A X.env X.xe) (hc : L2H.HotC X) (hi : SIH X W tg iter f) (hg : SG X tg t) (hb : SB X W body b) (hs : ∀ x, foldedSetIterable iter X.env x = pure x := by intro _; rfl) : SS X W (.For tg iter body [] pos) (zFor f t b) := by
  obtain ⟨ti, hi, ri⟩ := hi
  obtain ⟨tt, hg, rg⟩ := hg
  obtain ⟨tb, hb, rb⟩ := hb
  refine ⟨_, L2H.ps_forH hp hc hi hg hb hs, fun Hs H rh sg et m Dn s z => ri Hs H rh sg et m _ s ?_⟩
  unfold zFor R.toS at z
  cases q : f et m with
  | exc c d m1 => rw [q] at z; exact fun dx v Hs' H' rh' y s q r => z dx v sg Hs' H' rh' y s q r
  | stuck => rw [q] at z; exact z.elim
  | ok xs m1 =>
    rw [q] at z
    intro J Hs0 H0 rh0 x0 s0 gv
    have z0 : PostS X.K W Hs0 H0 rh0 Dn (dFor t b xs et m1) := PostS.ext x0 z
    refine ⟨fun i n sg' H' => n = xs.length - i ∧ i ≤ xs.length ∧ ∃ Hs' rh' e' m', SR X.K Hs' H' rh' sg' e' m' ∧ Same Hs0 Hs' ∧ rh0 <+: rh' ∧ PostS X.K W Hs' H' rh' Dn (dFor t b (xs.drop i) e' m'), ⟨xs.length, rfl, Nat.zero_le _, Hs0, rh0, et, m1, s0, .refl _, List.prefix_refl _, by simpa using z0⟩, ?_⟩
    rintro i n sg1 H1 ⟨rfl, hle, Hs1, rh1, e1, m2, s1, sm1, pf1, p1⟩
    obtain ⟨g1, g2⟩ := gv Hs1 H1 rh1 m2 s1.sc sm1 pf1 i
    by_cases hlt : i < xs.length
    · obtain ⟨go, yl⟩ := g1 hlt
      have hd : xs.drop i = xs[i] :: xs.drop (i + 1) := List.drop_eq_getElem_cons hlt
      rw [hd] at p1
      refine .inr ⟨go, fun sg' H' => ∃ Hs' rh' e' m', SR X.K Hs' H' rh' sg' e' m' ∧ Same Hs0 Hs' ∧ rh0 <+: rh' ∧ PostS X.K W Hs' H' rh' Dn (dFor t b (xs.drop (i + 1)) e' m'), fun sg' H' h => ⟨xs.length - (i + 1), by omega, rfl, hlt, h⟩, fun x H2 hy => ?_⟩
      obtain ⟨Hs2, sc2, x2, rep2⟩ := yl x H2 hy
      have s2 : SR X.K Hs2 H2 rh1 sg1 e1 m2 := s1.ext x2 sc2
      have p2 : PostS X.K W Hs2 H2 rh1 Dn (dFor t b (xs[i] :: xs.drop (i + 1)) e1 m2) := PostS.ext x2 p1
      refine rg Hs2 H2 rh1 sg1 e1 m2 xs[i] x _ s2 (rep2 _ (List.getElem?_eq_getElem hlt)) ?_
      have p3 : PostS X.K W Hs2 H2 rh1 Dn ((t xs[i] e1 m2).stored fun e m => (b e m).loop (dFor t b (xs.drop (i + 1)))) := p2
      unfold RS.stored RS.loop at p3
      cases qt : t xs[i] e1 m2 with
      | nx e3 m3 =>
        rw [qt] at p3
        intro sg3 Hs3 H3 rh3 x3 s3
        refine rb Hs3 H3 rh3 sg3 e3 m3 _ s3 ?_
        have p4 := PostS.ext x3 p3
        dsimp only at p4
        have sm3 : Same Hs0 Hs3 := sm1.trans (x2.sub.trans x3.sub)
        have pf3 : rh0 <+: rh3 := pf1.trans x3.pre
        cases qb : b e3 m3 with
        | nx e4 m4 => rw [qb] at p4; exact fun sg' Hs' H' rh' x' s' => ⟨Hs', rh', e4, m4, s', sm3.trans x'.sub, pf3.trans x'.pre, PostS.ext x' p4⟩
        | cnt e4 m4 => rw [qb] at p4; exact fun sg' Hs' H' rh' x' s' => ⟨Hs', rh', e4, m4, s', sm3.trans x'.sub, pf3.trans x'.pre, PostS.ext x' p4⟩
        | brk e4 m4 => rw [qb] at p4; exact p4
        | ret v e4 m4 => rw [qb] at p4; exact p4
        | exc c d e4 m4 => rw [qb] at p4; exact p4
        | stuck => rw [qb] at p4; exact p4.elim
      | _ => rw [qt] at p3; exact p3.elim
    · have hi : i = xs.length := by omega
      subst hi
      refine .inl ⟨g2 rfl, ?_⟩
      rw [List.drop_length] at p1
      exact p1 sg1 Hs1 H1 rh1 .refl s1
end
section
variable {X : Cx} {W : WX} {tg e : Expr} {p pos : Pos} {fa : Env → Mu → R (List Va)}
theorem si_range1H (hg : Gl X "range") (hm : X.mg "range" = none) (ha : SA X W [e] fa) (hs : starEach [e] X.env = [(false, eval e X.env)] := by rfl) : SIH X W tg (.Call (.Name "range" p) [e] [] pos) (iRng iRg1 fa) := by
  obtain ⟨t, h, r⟩ := ha
  refine ⟨_, L2H.pi_range1H hg hm h hs, fun Hs H rh sg et m Q s p => ?_⟩
  unfold iRng at p
  refine r Hs H rh sg et m _ s (PostI.step p fun as m1 vs Hs1 H1 rh1 x1 s1 r1 p1 => ?_)
  unfold iRg1 at p1
  split at p1
  · rename_i j
    obtain ⟨v, rfl, r2⟩ := as1 r1
    by_cases c : -(2 ^ 62) ≤ j ∧ j < 2 ^ 62
    · rw [if_pos c] at p1
      exact ⟨j, by rw [va_int r2], c.1, c.2, p1 _ Hs1 H1 rh1 .refl s1 gv_rng⟩
    · rw [if_neg c] at p1
      exact p1.elim
  · exact p1.elim
end
end DL
namespace DL
open PySem PySem.Spec PyProof.Rows L2
theorem unH {k : Nat} {A : Around} (r : L2H.RoomH k A) : A.units + 64 < cLine := by have := r.un; omega
theorem unH65 {k : Nat} {A : Around} (r : L2H.RoomH k A) : A.units + 65 < cLine := by have := r.un; omega
theorem roomS {k : Nat} {A : Around} {h : Option Value} (r : Room k A) : L2H.RoomH k (A.mark h) := ⟨r.dp, r.un⟩
end DL
set_option maxHeartbeats 4000000
/-! what the written part says, asked by Bools -/
namespace DL
open PySem PySem.Spec PyProof.Rows L2
abbrev oV (a b : Option Value) : Bool := decide (a = b)
abbrev oB (a b : Option Bool) : Bool := decide (a = b)
section
variable {K : PySem.W.Frag} {c : Str}
/-! an error class -/
def errB (K : PySem.W.Frag) (c : Str) : Bool :=
  PySem.W.excInitIn K (cA K c) PySem.ErrX.exB "Exception.__new__" && (PySem.W.hasDictIn K (cA K c) &&
  (He.eqO (PySem.W.findIn K (.ref (cA K c)) "__setattr__") (some (some (.builtin "object.__setattr__"))) &&
  (He.eqO (PySem.W.findIn K (.ref (cA K c)) "__getattribute__") (some (some (.builtin "BaseException.__getattribute__"))) &&
  (He.eqO (PySem.W.findIn K (.ref (cA K c)) "__getattr__") (some none) &&
  (He.eqO (PySem.W.findIn K (.ref (cA K c)) "at") (some none) &&
  (He.eqO (PySem.W.findIn K (.ref (cA K c)) "__init__") (some (some (.ref (He.fAd K (c, some "__init__"))))) &&
  (oV (PySem.W.typeIn K (.ref (He.fAd K (c, some "__init__")))) (some (.type "function")) &&
  (PySem.W.keepIn K (.ref (cA K c)) && (oB (PySem.W.subIn K (.ref (cA K c)) (.type "BaseException")) (some true) &&
  oV (PySem.W.typeIn K (.ref (cA K c))) (some (.type "type")))))))))))
theorem errCls_of {C : Addr} (q : PySem.W.excInitIn K C PySem.ErrX.exB "Exception.__new__" = true) (hd : PySem.W.hasDictIn K C = true) :
    ∃ nm q N bs bm sn sub ab col dd k0 k1 k2 k3 k5, K.lookup C = some (excClassObj nm q C N bs bm true sn sub ab col dd k0 k1 k2 k3 k5 "Exception.__new__") ∧ PySem.W.excTail PySem.ErrX.exB bm = true := by
  unfold PySem.W.excInitIn at q
  split at q
  · rename_i dd cd sl ho
    split at q
    · rename_i C' bm k0 k1 k2 k3 n k5 hm hs
      simp only [Bool.and_eq_true, beq_iff_eq, Bool.not_eq_true'] at q
      obtain ⟨⟨⟨rfl, rfl⟩, hdel⟩, ht⟩ := q
      obtain ⟨nm, bs, mro, ns, qn, hd', sn, sub, ab, col, del⟩ := cd
      dsimp only at hm hdel
      subst hm hdel
      have hsl : sl = #[k0, k1, k2, k3, some (.builtin "Exception.__new__"), k5] := by
        obtain ⟨l⟩ := sl
        simp only at hs
        rw [hs]
      subst hsl
      obtain ⟨cd2, hc2, hd2⟩ := PySem.W.any_some hd
      have e : PySem.W.clsIn K C' = some ⟨nm, bs, .ref C' :: bm, ns, qn, hd', sn, sub, ab, col, false⟩ := by unfold PySem.W.clsIn; rw [ho] <;> rfl
      rw [e] at hc2
      cases hc2
      have hd3 : hd' = true := hd2
      subst hd3
      exact ⟨nm, qn, ns, bs, bm, sn, sub, ab, col, dd, k0, k1, k2, k3, k5, ho, ht⟩
    · cases q
  · cases q
theorem errK_of {mg : Str → Option Value} {qn : Str} {st : Stmt} {fd : FuncData} (h : errB K c = true) (g : mg c = some (.ref (cA K c))) (F : FunD K "__init__" qn (defArgs st) (defBody st) (defScope st) [] [] (He.fAd K (c, some "__init__")) fd)
    (hst : ∃ p1 p2 q1 q2 q3 q4, defArgs st = PySem.ErrX.iA p1 p2 ∧ defBody st = PySem.ErrX.iB q1 q2 q3 q4 ∧ defScope st = PySem.ErrX.iS) : ErrK K mg c := by
  unfold errB at h
  obtain ⟨h1, h⟩ := He.ba h
  obtain ⟨h2, h⟩ := He.ba h
  obtain ⟨h3, h⟩ := He.ba h
  obtain ⟨h4, h⟩ := He.ba h
  obtain ⟨h5, h⟩ := He.ba h
  obtain ⟨h6, h⟩ := He.ba h
  obtain ⟨h7, h⟩ := He.ba h
  obtain ⟨h8, h⟩ := He.ba h
  obtain ⟨h9, h⟩ := He.ba h
  obtain ⟨h10, h11⟩ := He.ba h
  obtain ⟨p1, p2, q1, q2, q3, q4, e1, e2, e3⟩ := hst
  obtain ⟨oc, od, dV, kV, doc, pm, an, cdv, ct, osl, rfl, lk, hcd, hD, hK⟩ := F.ex
  have eD : dV = .none := by
    rcases hD with ⟨_, e⟩ | ⟨e, _⟩
    · exact e
    · exact absurd rfl e
  subst eD
  rw [e1, e2, e3] at lk
  exact ⟨qn, He.fAd K (c, some "__init__"), g, errCls_of h1 h2, He.eqO_ok h3, He.eqO_ok h4, He.eqO_ok h5, He.eqO_ok h6, He.eqO_ok h7, of_decide_eq_true h8, h9, of_decide_eq_true h10, of_decide_eq_true h11, h2,
    ⟨oc, od, kV, doc, pm, an, cdv, ct, osl, p1, p2, q1, q2, q3, q4, [], lk, hcd, rfl⟩⟩
/-! except clauses -/
def exmB (K : PySem.W.Frag) (cs : List Str) (h : Str) : Bool := cs.all fun c => oB (PySem.W.exmOne K (.ref (cA K c)) (.ref (cA K h))) (some (excSub c h))
theorem exmB_ok {cs : List Str} {h : Str} (q : exmB K cs h = true) : ∀ c, cs.contains c = true → PySem.W.exmOne K (.ref (cA K c)) (.ref (cA K h)) = some (excSub c h) := fun c hc =>
  of_decide_eq_true (List.all_eq_true.mp q c (by simpa using hc))
/-! isinstance -/
def objB (K : PySem.W.Frag) (c : Str) : Bool := PySem.W.plainGet K (cA K c) Str.empty && (PySem.W.hasDictIn K (cA K c) && (PySem.W.plainOver K (cA K c) && (He.eqO (PySem.W.findIn K (.ref (cA K c)) "__setattr__") (some (some (.builtin "object.__setattr__"))) &&
  (He.eqO (PySem.W.findIn K (.ref (cA K c)) "__class__") (some (some (.builtin "object.__class__"))) && oB (PySem.W.mroIn K (cA K c) (.type "object")) (some true)))))
def isiB (K : PySem.W.Frag) (cs : List Str) : Bool := (cs.all fun T => bTys.all fun a => oB (PySem.W.kitOne K (.type a) (.ref (cA K T))) (some false)) && ((cs.all fun c => objB K c) && ((cs.all fun c => cs.all fun T => oB (PySem.W.kitOne K (.ref (cA K c)) (.ref (cA K T))) (some (c == T))) &&
  ((cs.all fun c => bTys.all fun T => oB (PySem.W.kitOne K (.ref (cA K c)) (.type T)) (some false)) &&
  (He.eqO (PySem.W.specialIn K (.builtin "object.__class__") "__get__") (some (some (.builtin "getset_descriptor.__get__"))) && oB (PySem.W.takesIn K (.builtin "object.__class__")) (some true)))))
theorem objB_ok (h : objB K c = true) : Cls K (cA K c) ∧ PySem.W.findIn K (.ref (cA K c)) "__class__" = some (some (.builtin "object.__class__")) ∧ PySem.W.mroIn K (cA K c) (.type "object") = some true := by
  unfold objB at h
  obtain ⟨h1, h⟩ := He.ba h
  obtain ⟨h2, h⟩ := He.ba h
  obtain ⟨h3, h⟩ := He.ba h
  obtain ⟨h4, h⟩ := He.ba h
  obtain ⟨h5, h6⟩ := He.ba h
  exact ⟨⟨h1, h2, h3, He.eqO_ok h4⟩, He.eqO_ok h5, of_decide_eq_true h6⟩
theorem isiB_ok {cs : List Str} (h : isiB K cs = true) : IsiK K cs := by
  unfold isiB at h
  obtain ⟨h1, h⟩ := He.ba h
  obtain ⟨h2, h⟩ := He.ba h
  obtain ⟨h3, h⟩ := He.ba h
  obtain ⟨h4, h⟩ := He.ba h
  obtain ⟨h5, h6⟩ := He.ba h
  exact ⟨fun T hT a ha => of_decide_eq_true (List.all_eq_true.mp (List.all_eq_true.mp h1 T hT) a ha), fun c hc => objB_ok (List.all_eq_true.mp h2 c hc),
    fun c hc T hT => of_decide_eq_true (List.all_eq_true.mp (List.all_eq_true.mp h3 c hc) T hT), fun c hc T hT => of_decide_eq_true (List.all_eq_true.mp (List.all_eq_true.mp h4 c hc) T hT), He.eqO_ok h5, of_decide_eq_true h6⟩
/-! isinstance of a caught error -/
def excKB (K : PySem.W.Frag) (cs : List Str) (ts : List String) (c : Str) : Bool :=
  He.eqO (PySem.W.findIn K (.ref (cA K c)) "__getattribute__") (some (some (.builtin "BaseException.__getattribute__"))) && (He.eqO (PySem.W.findIn K (.ref (cA K c)) "__getattr__") (some none) &&
  (oB (PySem.W.subIn K (.ref (cA K c)) (.type "BaseException")) (some true) && (PySem.W.hasDictIn K (cA K c) && (He.eqO (PySem.W.findIn K (.ref (cA K c)) "__class__") (some (some (.builtin "object.__class__"))) &&
  (He.eqO (PySem.W.specialIn K (.builtin "object.__class__") "__get__") (some (some (.builtin "getset_descriptor.__get__"))) && (oB (PySem.W.takesIn K (.builtin "object.__class__")) (some true) && (oB (PySem.W.mroIn K (cA K c) (.type "object")) (some true) &&
  ((cs.all fun T => oB (PySem.W.kitOne K (.ref (cA K c)) (.ref (cA K T))) (some (excSub c T))) && ts.all fun T => oB (PySem.W.kitOne K (.ref (cA K c)) (.type T)) (some false)))))))))
theorem excKB_ok {cs : List Str} {ts : List String} (h : excKB K cs ts c = true) : ExcK K c cs ts := by
  unfold excKB at h
  obtain ⟨h1, h⟩ := He.ba h
  obtain ⟨h2, h⟩ := He.ba h
  obtain ⟨h3, h⟩ := He.ba h
  obtain ⟨h4, h⟩ := He.ba h
  obtain ⟨h5, h⟩ := He.ba h
  obtain ⟨h6, h⟩ := He.ba h
  obtain ⟨h7, h⟩ := He.ba h
  obtain ⟨h8, h⟩ := He.ba h
  obtain ⟨h9, h10⟩ := He.ba h
  exact ⟨⟨He.eqO_ok h1, He.eqO_ok h2, of_decide_eq_true h3, h4, He.eqO_ok h5, He.eqO_ok h6, of_decide_eq_true h7, of_decide_eq_true h8⟩, fun T hT => of_decide_eq_true (List.all_eq_true.mp h9 T hT), fun T hT => of_decide_eq_true (List.all_eq_true.mp h10 T hT)⟩
end
end DL
namespace DL
open PySem
@[simp] theorem ofString_inj (a b : String) : (Str.ofString a = Str.ofString b) ↔ a = b := by
  refine ⟨fun h => ?_, fun h => by rw [h]⟩
  rw [Str.ofString_eq_toList, Str.ofString_eq_toList] at h
  have h1 : (a.toList.map Char.toNat).toArray = (b.toList.map Char.toNat).toArray := congrArg Str.cps h
  have h2 : a.toList.map Char.toNat = b.toList.map Char.toNat := by simpa using h1
  have h3 : a.toList = b.toList := by
    have inj : ∀ (x y : List Char), x.map Char.toNat = y.map Char.toNat → x = y := by
      intro x
      induction x with
      | nil => intro y h; cases y with | nil => rfl | cons _ _ => simp at h
      | cons c x ih =>
        intro y h
        cases y with
        | nil => simp at h
        | cons d y =>
          simp only [List.map_cons, List.cons.injEq] at h
          rw [ih y h.2, Char.toNat_inj.mp h.1]
    exact inj _ _ h2
  exact String.toList_inj.mp h3
@[simp] theorem ofString_beq (a b : String) : (Str.ofString a == Str.ofString b) = (a == b) := by
  rw [Bool.eq_iff_iff]
  simp
end DL
set_option maxHeartbeats 4000000
/-! the end: a law's def -/
namespace DL
open PySem PySem.Spec PyProof.Rows L2
theorem fnOk_of {P : Program} {w : World} {K : PySem.W.Frag} {mg : Str → Option Value} {base : Heap} {name qual : Str} {st : Stmt} {N ps : List Str} {k n : Nat} {F : List D → R0} {g : Env → Mu → RS} {f : Addr} {fd : FuncData} (F0 : FunD K name qual (defArgs st) (defBody st) (defScope st) [] [] f fd) (S : FnScope N ps (defScope st)) (hn : ps.length = n)
    (sb : ∀ (f : Addr) cd A outer s H E, Cok (cxD P w K mg base N qual (defScope st) f cd A outer s H E) (fun c d _ H => E c d H) k → SB (cxD P w K mg base N qual (defScope st) f cd A outer s H E) (fun c d _ H => E c d H) (defBody st) g)
    (hF : ∀ ds, ds.length = n → F ds ≠ .stuck → outP (g (startD N.length (ds.map .d)) []) = F ds) : FnOk P w K mg base (L2N.CX P w) (k + 1) f fd ps (SpP K n F) := by
  refine F0.ok S (fun vs H Q E h => h.1.trans hn.symm) fun cd A outer s H vs Q E hr h => ?_
  exact spP_run (X := cxD P w K mg base N qual (defScope st) f cd A outer s H E) (sb f cd A outer s H E ⟨L2N.takes_of (X := cxD P w K mg base N qual (defScope st) f cd A outer s H E) rfl rfl rfl rfl, passes_of (X := cxD P w K mg base N qual (defScope st) f cd A outer s H E) rfl, hr, rfl⟩) hF h
theorem walk_ofD {l : PySem.W.OpenLaw} {n k : Nat} {q : Program} {loose : List Str} {XP : (Str → Option Value) → Heap → Prop} {YP : World → Heap → Prop} {d : DefRec} {CX : World → CXT} {x : Str}
    (hn : l.most = some n) (hn2 : n ≤ sizeLine) (hdf : d.params.defaults = []) (hr : Room k callerA)
    (F : ∀ (w : World) (mg : Str → Option Value) (fa : Addr) (h : Heap), YP w h → h.Ns mainGlobals mg → mg d.name = some (.ref fa) →
      ∃ (K : PySem.W.Frag) (fd : FuncData) (sp : Sp), K.In h ∧ (∀ (s : Shared) (u : Value), BindsTo s fd ⟨[u], []⟩ [(x, u)]) ∧
        (∀ (H : Hp) (a : Addr) (ns : List Int), ns.length ≤ n → Only H → SqL K H a (ns.map V.int) → sp [.ref a] H (fun v _ => v = .bl true) fun _ _ _ => False) ∧
        ∀ base : Heap, K.In base → base.Ns mainGlobals mg → FnOk l.prog w K mg base (CX w) k fa fd [x] sp)
    (hCX : ∀ (w : World) (H : Hp) (s : Shared) (e : Value) (s' : Shared), CX w [] H s (fun _ _ _ => False) e s' → False) :
    PySem.W.WalkO q loose XP YP l.row.toRowW d [] (fun f vs => PySem.call f vs) := by
  refine Att.attach_call hn hdf fun w s₀ s₁ mg mb fa o pm cd doc a vs ns G Y ho hd hcd hmg hobj hints hlen hg => ?_
  obtain ⟨K, fd, sp, KX, hb, hsp, hF⟩ := F w mg fa _ Y G.T.g hmg
  exact law_call KX G.T.g G.T.b G.T.builtins G.T.nolimit hg hobj hints (Nat.le_trans hlen hn2) hr hF hb (fun H hO hS => hsp H a ns hlen hO hS) fun H e s' => hCX w H s₁ e s'
theorem cx_no {P : Program} {w : World} {H : Hp} {s : Shared} {e : Value} {s' : Shared} (h : L2N.CX P w [] H s (fun _ _ _ => False) e s') : False := by
  obtain ⟨_, _, _, _, _, _, _, _, _, _, _, _, z⟩ := h
  exact z
theorem sp_law_of {K : PySem.W.Frag} {F : List D → R0} {H : Hp} {a : Addr} {ns : List Int} {E : XK} (hS : SqL K H a (ns.map V.int)) (h : F [.scr ns] = .ok (.bl true)) : SpP K 1 F [.ref a] H (fun v _ => v = .bl true) E := by
  refine ⟨rfl, H, [.scr ns], .refl _, ?_, ?_⟩
  · refine reps_cons.mpr ⟨?_, reps_nil.mpr rfl⟩
    simp only [Rep]
    exact ⟨a, rfl, hS⟩
  · rw [h]
    intro v Hs' H' _ _ _ _ r
    exact rep_bl r
end DL
set_option maxHeartbeats 4000000
namespace DL
open PySem PySem.Spec PyProof.Rows L2
abbrev OWN : List Str := []
abbrev ERRS : List Str := ["BadValue", "BadLine", "BadSyntax"]
abbrev ERRP : List Str := ["PageError", "BadValue", "BadLine", "BadSyntax"]
abbrev ERRT : List String := ["ValueError", "LookupError", "ArithmeticError"]
def top (i : Nat) : Stmt := PySem.Challenge.pw_pagesonce_k00_errors.main.body.getD i (.Pass ⟨0, 0, 0, 0⟩)
/-! ### _law_numbers -/
abbrev nm__law_numbers : List Str := ["script", "row", "cell", "left", "k", "mixed"]
abbrev ps__law_numbers : List Str := ["script"]
theorem sc__law_numbers : FnScope nm__law_numbers ps__law_numbers (defScope (top 7)) := ⟨rfl, rfl, rfl, by decide +kernel, rfl, by decide +kernel, by decide +kernel⟩
theorem nd__law_numbers : nm__law_numbers.Nodup := sc__law_numbers.nd
noncomputable def lp1__law_numbers : Env → Mu → RS :=
  zSeq (zIf (xTst (xBin oEq (xVar 3) (xC (.int 0)))) (zBrk) (zNil))
  (zSeq (zExpr (xBM isL oAppend (xVar 1) (xCons (xBin oMod (xCB oInt (xCons (xVar 3) (xNil))) (xC (.int 997))) (xNil))))
  (zAsg (xBin oFdiv (xVar 3) (xC (.int 997))) (gN 3)))
noncomputable def lp2__law_numbers : Env → Mu → RS :=
  zSeq (zAsg (xBin oMod (xCB oInt (xCons (xBin oAdd (xBin oAdd (xBin oMul (xVar 2) (xC (.int 48271))) (xBin oMul (xVar 4) (xC (.int 69621)))) (xC (.int 11))) (xNil))) (xC (.int 2147483647))) (gN 5))
  (zExpr (xBM isL oAppend (xVar 1) (xCons (xBin oMod (xCB oInt (xCons (xBin oAdd (xBin oMul (xVar 5) (xC (.int 16807))) (xVar 4)) (xNil))) (xC (.int 2147483629))) (xNil))))
noncomputable def lp3__law_numbers : Env → Mu → RS :=
  zIf (xTst (xBin oGe (xVar 2) (xBin oPow (xC (.int 10)) (xC (.int 18))))) (zSeq (zAsg (xVar 2) (gN 3))
  (zFor (iRng iRg1 (xCons (xC (.int 60)) (xNil))) (gN 4) lp1__law_numbers)) (zFor (iRng iRg1 (xCons (xC (.int 4)) (xNil))) (gN 4) lp2__law_numbers)
noncomputable def g__law_numbers : Env → Mu → RS :=
  zSeq (zAsg (xCel (xLst (xNil))) (gN 1))
  (zSeq (zFor (iSeq (xFrz (xSlL (xVar 0) (xNoPart) (xPart (xC (.int 63)))))) (gN 2) lp3__law_numbers)
  (zSeq (zIf (xTst (xBin oEq (xCB oLen (xCons (xVar 1) (xNil))) (xC (.int 0)))) (zExpr (xBM isL oAppend (xVar 1) (xCons (xC (.int 0)) (xNil)))) (zNil))
  (zRet (xVar 1))))
theorem sb__law_numbers {P : Program} {w : World} {K : PySem.W.Frag} {mg : Str → Option Value} {base : Heap} (m_range : mg "range" = none) (m_int : mg "int" = none) (m_len : mg "len" = none) : ∀ (f : Addr) cd A outer s H E, Cok (cxD P w K mg base nm__law_numbers "_law_numbers" (defScope (top 7)) f cd A outer s H E) (fun c d _ H => E c d H) 0 → SB (cxD P w K mg base nm__law_numbers "_law_numbers" (defScope (top 7)) f cd A outer s H E) (fun c d _ H => E c d H) (defBody (top 7)) g__law_numbers := fun f cd A outer s H E C =>
  (sb_cons (ss_set (i := 1) nd__law_numbers rfl (.inl rfl) (sf_cel (sf_lst sa_nil)))
  (sb_cons (ss_for C.po C.calm (si_seq (sf_frz (sf_slice (se_var 0 rfl (.inl rfl)) so_none (so_some se_int)))) (sg_name (i := 2) nd__law_numbers rfl (.inl rfl)) (sb_one (ss_if (st_cmp os_ge (se_var 2 rfl (.inl rfl)) (se_op os_pow se_int se_int) (nomark _)) (sb_cons (ss_set (i := 3) nd__law_numbers rfl (.inl rfl) (se_var 2 rfl (.inl rfl)))
  (sb_one (ss_for C.po C.calm (si_range1 rfl m_range (sa_cons se_int sa_nil)) (sg_name (i := 4) nd__law_numbers rfl (.inl rfl)) (sb_cons (ss_if (st_cmp (os_eq C.hr.units) (se_var 3 rfl (.inl rfl)) se_int (nomark _)) (sb_one ss_break) sb_nil)
  (sb_cons (ss_expr (se_append (se_var 1 rfl (.inl rfl)) (sa_cons (se_op os_mod (se_ct cs_int rfl m_int (by decide +kernel) (sa_cons (se_var 3 rfl (.inl rfl)) sa_nil)) se_int) sa_nil)))
  (sb_one (ss_set (i := 3) nd__law_numbers rfl (.inl rfl) (se_op os_fdiv (se_var 3 rfl (.inl rfl)) se_int)))))))) (sb_one (ss_for C.po C.calm (si_range1 rfl m_range (sa_cons se_int sa_nil)) (sg_name (i := 4) nd__law_numbers rfl (.inl rfl)) (sb_cons (ss_set (i := 5) nd__law_numbers rfl (.inl rfl) (se_op os_mod (se_ct cs_int rfl m_int (by decide +kernel) (sa_cons (se_op os_add (se_op os_add (se_op os_mul (se_var 2 rfl (.inl rfl)) se_int) (se_op os_mul (se_var 4 rfl (.inl rfl)) se_int)) se_int) sa_nil)) se_int))
  (sb_one (ss_expr (se_append (se_var 1 rfl (.inl rfl)) (sa_cons (se_op os_mod (se_ct cs_int rfl m_int (by decide +kernel) (sa_cons (se_op os_add (se_op os_mul (se_var 5 rfl (.inl rfl)) se_int) (se_var 4 rfl (.inl rfl))) sa_nil)) se_int) sa_nil))))))))))
  (sb_cons (ss_if (st_cmp (os_eq C.hr.units) (se_cb cs_len rfl m_len (by decide +kernel) (sa_cons (se_var 1 rfl (.inl rfl)) sa_nil)) se_int (nomark _)) (sb_one (ss_expr (se_append (se_var 1 rfl (.inl rfl)) (sa_cons se_int sa_nil)))) sb_nil)
  (sb_one (ss_ret (se_var 1 rfl (.inl rfl)))))))
-- kind: P
-- lists: script
theorem cpow_18 : CPow 10 18 := ⟨by decide, by decide, by decide⟩
theorem numbers_row (s : List Int) (hs : s.length ≤ 63) : ∃ ns : List Int, ns ≠ [] ∧ ns.length ≤ 4000 ∧ outP (g__law_numbers (startD 6 [.d (.scr s)]) []) = .ok (.lst (ns.map .int)) := by
  have c4 : ∀ a, CMul a 48271 := fun a => cmul_r (by decide) (by decide)
  have c6 : ∀ a, CMul a 69621 := fun a => cmul_r (by decide) (by decide)
  have c1 : ∀ a, CMul a 16807 := fun a => cmul_r (by decide) (by decide)
  have outer : ∀ (xs : List Int), xs.length ≤ 63 → ∀ e m, (∃ a b c d, e = [some (.d (.scr s)), some (.l 0), a, b, c, d]) → m = [some (.lst [])] →
      ∃ (e' : Env) (ns : List Int), (∃ a b c d, e' = [some (.d (.scr s)), some (.l 0), a, b, c, d]) ∧ ns.length ≤ 60 * xs.length ∧
        dFor (gN 2) lp3__law_numbers
        (xs.map fun n => .d (.int n)) e m = .nx e' [some (.lst (ns.map .int))] := by
    intro xs hx e m he hm
    refine dFor_rule (fun r => ∃ (e' : Env) (ns : List Int), (∃ a b c d, e' = [some (.d (.scr s)), some (.l 0), a, b, c, d]) ∧ ns.length ≤ 60 * xs.length ∧ r = .nx e' [some (.lst (List.map D.int ns))])
      (xs := xs.map fun n => Va.d (.int n)) (fun i e m => ∃ (ns : List Int), (∃ a b c d, e = [some (.d (.scr s)), some (.l 0), a, b, c, d]) ∧ ns.length ≤ 60 * i ∧ m = [some (.lst (ns.map .int))]) ⟨[], he, by simp, by simpa using hm⟩ ?_ ?_
    · rintro i x e m hx ⟨ns, ⟨a, b, c, d, rfl⟩, hl, rfl⟩
      have hi : i < xs.length := by
        have := (List.getElem?_eq_some_iff.mp hx).1
        rwa [List.length_map] at this
      rw [List.getElem?_map] at hx
      obtain ⟨cell, hc, rfl⟩ := Option.map_eq_some_iff.mp hx
      by_cases cc : 10 ^ 18 ≤ cell
      · have cc' : (1000000000000000000 : Int) ≤ cell := by simpa using cc
        simp [lp3__law_numbers, cpow_18, cc']
        refine dFor_rule _ (fun j e m => ∃ (ns : List Int) (left : Int), (∃ a c d, e = [some (.d (.scr s)), some (.l 0), a, some (.d (.int left)), c, d]) ∧ ns.length ≤ 60 * i + j ∧ m = [some (.lst (ns.map .int))]) ⟨ns, cell, ⟨_, _, _, rfl⟩, by simpa using hl, rfl⟩ ?_ ?_
        · rintro j y e m hy ⟨ns, left, ⟨a, c, d, rfl⟩, hl, rfl⟩
          have hj : j < 60 := by
            have := (List.getElem?_eq_some_iff.mp hy).1
            simpa [rngD] using this
          have hz : ns.length < sizeLine := sizeLine_lt (by omega)
          by_cases l0 : left = 0
          · subst l0
            simp
            exact ⟨⟨_, _, _, _, rfl⟩, ns, by omega, rfl⟩
          · have l0' : (left == 0) = false := by simpa using l0
            simp [lp1__law_numbers, l0', hz]
            exact ⟨ns ++ [left.fmod 997], by simp; omega, by simp⟩
        · rintro e m ⟨ns, left, ⟨a, c, d, rfl⟩, hl, rfl⟩
          simp [rngD] at hl
          simp
          exact ⟨ns, by omega, rfl⟩
      · have cc' : ¬ (1000000000000000000 : Int) ≤ cell := by simpa using cc
        simp [lp3__law_numbers, cpow_18, cc']
        refine dFor_rule _ (fun j e m => ∃ (ns : List Int), (∃ b c d, e = [some (.d (.scr s)), some (.l 0), some (.d (.int cell)), b, c, d]) ∧ ns.length ≤ 60 * i + j ∧ m = [some (.lst (ns.map .int))]) ⟨ns, ⟨_, _, _, rfl⟩, by simpa using hl, rfl⟩ ?_ ?_
        · rintro j y e m hy ⟨ns, ⟨b, c, d, rfl⟩, hl, rfl⟩
          have hj : j < 4 := by
            have := (List.getElem?_eq_some_iff.mp hy).1
            simpa [rngD] using this
          have hz : ns.length < sizeLine := sizeLine_lt (by omega)
          have ey : y = .d (.int (0 + (j : Nat))) := by
            unfold rngD at hy
            rw [List.getElem?_map, List.getElem?_range (by simpa using hj)] at hy
            cases hy
            rfl
          subst ey
          simp [lp2__law_numbers, hz, c4, c6, c1]
          exact ⟨ns ++ [(((cell * 48271 + j * 69621 + 11).fmod 2147483647) * 16807 + j).fmod 2147483629], by simp; omega, by simp⟩
        · rintro e m ⟨ns, ⟨b, c, d, rfl⟩, hl, rfl⟩
          simp [rngD] at hl
          simp
          exact ⟨ns, by omega, rfl⟩
    · rintro e m ⟨ns, he, hl, rfl⟩
      exact ⟨e, ns, he, by simpa using hl, rfl⟩
  have hcut : (cutD (s.map D.int) none (some 63)) = (s.take 63).map D.int := by
    unfold cutD
    simp [HT.sIx]
  obtain ⟨e', ns, ⟨a, b, c, d, rfl⟩, hl, hr⟩ := outer (s.take 63) (by rw [List.length_take]; omega) [some (.d (.scr s)), some (.l 0), none, none, none, none] [some (.lst [])] ⟨_, _, _, _, rfl⟩ rfl
  have hlen : ns.length ≤ 3780 := by rw [List.length_take] at hl; omega
  have hz : ns.length < sizeLine := sizeLine_lt (by omega)
  have hr1 : dFor (gN 2) lp3__law_numbers (List.take 63 (List.map (Va.d ∘ D.int) s)) [some (.d (.scr s)), some (.l 0), none, none, none, none] [some (.lst [])] = .nx [some (.d (.scr s)), some (.l 0), a, b, c, d] [some (.lst (ns.map D.int))] := by
    rw [← List.map_take]
    exact hr
  by_cases h0 : ns = []
  · subst h0
    refine ⟨[0], by simp, by simp, ?_⟩
    simp only [List.map_nil] at hr1
    have hz0 : 0 < sizeLine := sizeLine_lt (by omega)
    simp [g__law_numbers, hcut, hr1, hz0]
  · refine ⟨ns, h0, by omega, ?_⟩
    simp [g__law_numbers, hcut, hr1, h0]
open Classical in
noncomputable def numbersV (s : List Int) : List Int := if h : s.length ≤ 63 then (numbers_row s h).choose else [0]
theorem numbersV_ne {s : List Int} (h : s.length ≤ 63) : numbersV s ≠ [] := by
  unfold numbersV
  rw [dif_pos h]
  exact (numbers_row s h).choose_spec.1
theorem numbersV_len {s : List Int} (h : s.length ≤ 63) : (numbersV s).length ≤ 4000 := by
  unfold numbersV
  rw [dif_pos h]
  exact (numbers_row s h).choose_spec.2.1
noncomputable def F_law_numbers : List D → R0
  | [.scr s] => if s.length ≤ 63 then .ok (.lst ((numbersV s).map .int)) else .stuck
  | _ => .stuck
theorem eq_law_numbers : ∀ ds, ds.length = 1 → F_law_numbers ds ≠ .stuck → outP (g__law_numbers (startD 6 (ds.map .d)) []) = F_law_numbers ds := by
  intro ds hl3 h
  unfold F_law_numbers at h ⊢
  split at h <;> try exact absurd rfl h
  rename_i s
  split at h <;> try exact absurd rfl h
  rename_i hc
  rw [if_pos hc]
  unfold numbersV
  rw [dif_pos hc]
  exact (numbers_row s hc).choose_spec.2.2
theorem ok_law_numbers {P : Program} {w : World} {K : PySem.W.Frag} {mg : Str → Option Value} {base : Heap} (d : DefOk K mg "_law_numbers" "_law_numbers" "_law_numbers" (top 7)) (m_range : mg "range" = none) (m_int : mg "int" = none) (m_len : mg "len" = none) : FnP P w K mg base 1 "_law_numbers" 1 F_law_numbers :=
  okP d sc__law_numbers rfl (fun _ _ _ _ _ _ us hl => match us, hl with | [_], _ => rfl) (sb__law_numbers m_range m_int m_len) eq_law_numbers
/-! ### _law_draw -/
abbrev nm__law_draw : List Str := ["row", "at", "limit", "mixed"]
abbrev ps__law_draw : List Str := ["row", "at", "limit"]
theorem sc__law_draw : FnScope nm__law_draw ps__law_draw (defScope (top 8)) := ⟨rfl, rfl, rfl, by decide +kernel, rfl, by decide +kernel, by decide +kernel⟩
theorem nd__law_draw : nm__law_draw.Nodup := sc__law_draw.nd
noncomputable def g__law_draw : Env → Mu → RS :=
  zSeq (zIf (xTst (xBin oLt (xVar 1) (xCB oLen (xCons (xVar 0) (xNil))))) (zRet (xBin oMod (xCB oInt (xCons (xBin oIx (xVar 0) (xVar 1)) (xNil))) (xVar 2))) (zNil))
  (zSeq (zAsg (xBin oMod (xCB oInt (xCons (xBin oAdd (xBin oAdd (xBin oMul (xBin oIx (xVar 0) (xBin oMod (xCB oInt (xCons (xVar 1) (xNil))) (xCB oLen (xCons (xVar 0) (xNil))))) (xC (.int 40692))) (xBin oMul (xVar 1) (xC (.int 7919)))) (xC (.int 3))) (xNil))) (xC (.int 2147483399))) (gN 3))
  (zRet (xBin oMod (xCB oInt (xCons (xBin oMod (xCB oInt (xCons (xBin oAdd (xBin oMul (xVar 3) (xC (.int 48271))) (xVar 1)) (xNil))) (xC (.int 2147483647))) (xNil))) (xVar 2))))
theorem sb__law_draw {P : Program} {w : World} {K : PySem.W.Frag} {mg : Str → Option Value} {base : Heap} (m_len : mg "len" = none) (m_int : mg "int" = none) : ∀ (f : Addr) cd A outer s H E, Cok (cxD P w K mg base nm__law_draw "_law_draw" (defScope (top 8)) f cd A outer s H E) (fun c d _ H => E c d H) 0 → SB (cxD P w K mg base nm__law_draw "_law_draw" (defScope (top 8)) f cd A outer s H E) (fun c d _ H => E c d H) (defBody (top 8)) g__law_draw := fun f cd A outer s H E C =>
  (sb_cons (ss_if (st_cmp os_lt (se_var 1 rfl (.inl rfl)) (se_cb cs_len rfl m_len (by decide +kernel) (sa_cons (se_var 0 rfl (.inl rfl)) sa_nil)) (nomark _)) (sb_one (ss_ret (se_op os_mod (se_ct cs_int rfl m_int (by decide +kernel) (sa_cons (se_ix (se_var 0 rfl (.inl rfl)) (se_var 1 rfl (.inl rfl)) (fun _ _ => rfl)) sa_nil)) (se_var 2 rfl (.inl rfl))))) sb_nil)
  (sb_cons (ss_set (i := 3) nd__law_draw rfl (.inl rfl) (se_op os_mod (se_ct cs_int rfl m_int (by decide +kernel) (sa_cons (se_op os_add (se_op os_add (se_op os_mul (se_ix (se_var 0 rfl (.inl rfl)) (se_op os_mod (se_ct cs_int rfl m_int (by decide +kernel) (sa_cons (se_var 1 rfl (.inl rfl)) sa_nil)) (se_cb cs_len rfl m_len (by decide +kernel) (sa_cons (se_var 0 rfl (.inl rfl)) sa_nil))) (fun _ _ => rfl)) se_int) (se_op os_mul (se_var 1 rfl (.inl rfl)) se_int)) se_int) sa_nil)) se_int))
  (sb_one (ss_ret (se_op os_mod (se_ct cs_int rfl m_int (by decide +kernel) (sa_cons (se_op os_mod (se_ct cs_int rfl m_int (by decide +kernel) (sa_cons (se_op os_add (se_op os_mul (se_var 3 rfl (.inl rfl)) se_int) (se_var 1 rfl (.inl rfl))) sa_nil)) se_int) sa_nil)) (se_var 2 rfl (.inl rfl)))))))
-- kind: P
def drawV (ns : List Int) (at_ lim : Int) : Int :=
  if at_ < ns.length then (ns.getD at_.toNat 0).fmod lim
  else (((ns.getD (at_.fmod ns.length).toNat 0 * 40692 + at_ * 7919 + 3).fmod 2147483399 * 48271 + at_).fmod 2147483647).fmod lim
theorem drawV_lo {ns : List Int} {a lim : Int} (h : 0 < lim) : 0 ≤ drawV ns a lim := by
  unfold drawV
  split <;> exact Int.fmod_nonneg_of_pos _ h
theorem drawV_hi {ns : List Int} {a lim : Int} (h : 0 < lim) : drawV ns a lim < lim := by
  unfold drawV
  split <;> exact Int.fmod_lt_of_pos _ h
def F_law_draw : List D → R0
  | [.lst r, .int a, .int lim] => (match intsOf r with
    | some ns => if ns ≠ [] ∧ 0 ≤ a ∧ 0 < lim then .ok (.int (drawV ns a lim)) else .stuck
    | none => .stuck)
  | _ => .stuck
theorem eq_law_draw : ∀ ds, ds.length = 3 → F_law_draw ds ≠ .stuck → outP (g__law_draw (startD 4 (ds.map .d)) []) = F_law_draw ds := by
  intro ds hl3 h
  unfold F_law_draw at h ⊢
  split at h <;> try exact absurd rfl h
  rename_i r a lim
  split at h <;> try exact absurd rfl h
  rename_i ns e
  have er := intsOf_eq e
  subst er
  split at h <;> try exact absurd rfl h
  rename_i hc
  obtain ⟨h0, ha, hl⟩ := hc
  have hp : 0 < (ns.length : Int) := by
    have := List.length_pos_iff.mpr h0
    omega
  have hm0 : 0 ≤ a.fmod ns.length := Int.fmod_nonneg_of_pos _ hp
  have hm1 : a.fmod ns.length < ns.length := Int.fmod_lt_of_pos _ hp
  have hl0 : lim ≠ 0 := by omega
  by_cases c : a < ns.length
  · simp [g__law_draw, c, atI_ints ha c, hl0, drawV, h0, ha, hl]
  · have c79 : CMul a 7919 := cmul_r (by decide) (by decide)
    simp [g__law_draw, c, atI_ints hm0 hm1, hl0, h0, drawV, c79, cmul_r, ha, hl]
theorem ok_law_draw {P : Program} {w : World} {K : PySem.W.Frag} {mg : Str → Option Value} {base : Heap} (d : DefOk K mg "_law_draw" "_law_draw" "_law_draw" (top 8)) (m_len : mg "len" = none) (m_int : mg "int" = none) : FnP P w K mg base 1 "_law_draw" 3 F_law_draw :=
  okP d sc__law_draw rfl (fun _ _ _ _ _ _ us hl => match us, hl with | [_, _, _], _ => rfl) (sb__law_draw m_len m_int) eq_law_draw
/-! ### _law_take -/
abbrev nm__law_take : List Str := ["row", "spot", "limit"]
abbrev ps__law_take : List Str := ["row", "spot", "limit"]
theorem sc__law_take : FnScope nm__law_take ps__law_take (defScope (top 9)) := ⟨rfl, rfl, rfl, by decide +kernel, rfl, by decide +kernel, by decide +kernel⟩
theorem nd__law_take : nm__law_take.Nodup := sc__law_take.nd
noncomputable def g__law_take : Env → Mu → RS :=
  zSeq (zAsg (xBin oAdd (xBin oIx (xVar 1) (xC (.int 0))) (xC (.int 1))) (gSubL (xVar 1) (xC (.int 0))))
  (zRet (xCallP 3 F_law_draw (xCons (xVar 0) (xCons (xBin oSub (xBin oIx (xVar 1) (xC (.int 0))) (xC (.int 1))) (xCons (xVar 2) (xNil))))))
theorem sb__law_take {P : Program} {w : World} {K : PySem.W.Frag} {mg : Str → Option Value} {base : Heap} (h__law_draw : FnP P w K mg base 1 "_law_draw" 3 F_law_draw) : ∀ (f : Addr) cd A outer s H E, Cok (cxD P w K mg base nm__law_take "_law_take" (defScope (top 9)) f cd A outer s H E) (fun c d _ H => E c d H) 1 → SB (cxD P w K mg base nm__law_take "_law_take" (defScope (top 9)) f cd A outer s H E) (fun c d _ H => E c d H) (defBody (top 9)) g__law_take := fun f cd A outer s H E C =>
  (sb_cons (ss_asg (se_op os_add (se_ix (se_var 1 rfl (.inl rfl)) se_int (fun _ _ => rfl)) se_int) (sg_subL (se_var 1 rfl (.inl rfl)) se_int))
  (sb_one (ss_ret (se_callP h__law_draw (C.hr.mono (by decide)) C.tk rfl (sa_cons (se_var 0 rfl (.inl rfl)) (sa_cons (se_op os_sub (se_ix (se_var 1 rfl (.inl rfl)) se_int (fun _ _ => rfl)) se_int) (sa_cons (se_var 2 rfl (.inl rfl)) sa_nil)))))))
-- kind: S
def F_law_take : List Va → Mu → R Va := fun as m => match as with
  | [.d (.lst r), .l n, .d (.int lim)] => (match intsOf r, m[n]? with
    | some ns, some (some (.lst [.int k])) => if ns ≠ [] ∧ 0 ≤ k ∧ 0 < lim then .ok (.d (.int (drawV ns k lim))) (m.set n (some (.lst [.int (k + 1)]))) else .stuck
    | _, _ => .stuck)
  | _ => .stuck
theorem eq_law_take : ∀ as m, as.length = 3 → F_law_take as m ≠ .stuck → OutS m (g__law_take (startD 3 as) m) (F_law_take as m) := by
  intro as m hl3 h
  unfold F_law_take at h ⊢
  split at h <;> try exact absurd rfl h
  rename_i r n lim
  split at h <;> try exact absurd rfl h
  rename_i ns k e1 e2
  have er := intsOf_eq e1
  subst er
  split at h <;> try exact absurd rfl h
  rename_i hc
  obtain ⟨h0, ha, hl⟩ := hc
  have hn : ∀ x, (m.set n x)[n]? = some x := fun x => List.getElem?_set_self (List.getElem?_eq_some_iff.mp e2).1
  have ek : k + 1 - 1 = k := by omega
  simp [g__law_take, e2, atI, ixN, F_law_draw, h0, ha, hl, hn, ek, OutS]
  exact cut_set (c := .lst [.int (k + 1)]) trivial
theorem ok_law_take {P : Program} {w : World} {K : PySem.W.Frag} {mg : Str → Option Value} {base : Heap} (d : DefOk K mg "_law_take" "_law_take" "_law_take" (top 9)) (h__law_draw : FnP P w K mg base 1 "_law_draw" 3 F_law_draw) : FnS P w K mg base 2 "_law_take" 3 F_law_take :=
  okS d sc__law_take rfl (fun _ _ _ _ _ _ us hl => match us, hl with | [_, _, _], _ => rfl) (sb__law_take h__law_draw) eq_law_take
/-! ### _law_wide -/
abbrev nm__law_wide : List Str := ["row", "spot", "limit", "first", "second", "third"]
abbrev ps__law_wide : List Str := ["row", "spot", "limit"]
theorem sc__law_wide : FnScope nm__law_wide ps__law_wide (defScope (top 10)) := ⟨rfl, rfl, rfl, by decide +kernel, rfl, by decide +kernel, by decide +kernel⟩
theorem nd__law_wide : nm__law_wide.Nodup := sc__law_wide.nd
noncomputable def g__law_wide : Env → Mu → RS :=
  zSeq (zAsg (xCallS 3 F_law_take (xCons (xVar 0) (xCons (xVar 1) (xCons (xC (.int 997)) (xNil))))) (gN 3))
  (zSeq (zAsg (xCallS 3 F_law_take (xCons (xVar 0) (xCons (xVar 1) (xCons (xC (.int 997)) (xNil))))) (gN 4))
  (zSeq (zAsg (xCallS 3 F_law_take (xCons (xVar 0) (xCons (xVar 1) (xCons (xC (.int 997)) (xNil))))) (gN 5))
  (zRet (xBin oMod (xCB oInt (xCons (xBin oAdd (xBin oAdd (xBin oMul (xVar 3) (xC (.int 994009))) (xBin oMul (xVar 4) (xC (.int 997)))) (xVar 5)) (xNil))) (xVar 2)))))
theorem sb__law_wide {P : Program} {w : World} {K : PySem.W.Frag} {mg : Str → Option Value} {base : Heap} (h__law_take : FnS P w K mg base 2 "_law_take" 3 F_law_take) (m_int : mg "int" = none) : ∀ (f : Addr) cd A outer s H E, Cok (cxD P w K mg base nm__law_wide "_law_wide" (defScope (top 10)) f cd A outer s H E) (fun c d _ H => E c d H) 2 → SB (cxD P w K mg base nm__law_wide "_law_wide" (defScope (top 10)) f cd A outer s H E) (fun c d _ H => E c d H) (defBody (top 10)) g__law_wide := fun f cd A outer s H E C =>
  (sb_cons (ss_set (i := 3) nd__law_wide rfl (.inl rfl) (se_callS h__law_take (C.hr.mono (by decide)) C.tk rfl (sa_cons (se_var 0 rfl (.inl rfl)) (sa_cons (se_var 1 rfl (.inl rfl)) (sa_cons se_int sa_nil)))))
  (sb_cons (ss_set (i := 4) nd__law_wide rfl (.inl rfl) (se_callS h__law_take (C.hr.mono (by decide)) C.tk rfl (sa_cons (se_var 0 rfl (.inl rfl)) (sa_cons (se_var 1 rfl (.inl rfl)) (sa_cons se_int sa_nil)))))
  (sb_cons (ss_set (i := 5) nd__law_wide rfl (.inl rfl) (se_callS h__law_take (C.hr.mono (by decide)) C.tk rfl (sa_cons (se_var 0 rfl (.inl rfl)) (sa_cons (se_var 1 rfl (.inl rfl)) (sa_cons se_int sa_nil)))))
  (sb_one (ss_ret (se_op os_mod (se_ct cs_int rfl m_int (by decide +kernel) (sa_cons (se_op os_add (se_op os_add (se_op os_mul (se_var 3 rfl (.inl rfl)) se_int) (se_op os_mul (se_var 4 rfl (.inl rfl)) se_int)) (se_var 5 rfl (.inl rfl))) sa_nil)) (se_var 2 rfl (.inl rfl))))))))
-- kind: S
def wideV (ns : List Int) (k lim : Int) : Int := (drawV ns k 997 * 994009 + drawV ns (k + 1) 997 * 997 + drawV ns (k + 2) 997).fmod lim
theorem wideV_lo {ns : List Int} {a lim : Int} (h : 0 < lim) : 0 ≤ wideV ns a lim := Int.fmod_nonneg_of_pos _ h
theorem wideV_hi {ns : List Int} {a lim : Int} (h : 0 < lim) : wideV ns a lim < lim := Int.fmod_lt_of_pos _ h
def F_law_wide : List Va → Mu → R Va := fun as m => match as with
  | [.d (.lst r), .l n, .d (.int lim)] => (match intsOf r, m[n]? with
    | some ns, some (some (.lst [.int k])) => if ns ≠ [] ∧ 0 ≤ k ∧ 0 < lim then .ok (.d (.int (wideV ns k lim))) (m.set n (some (.lst [.int (k + 3)]))) else .stuck
    | _, _ => .stuck)
  | _ => .stuck
theorem eq_law_wide : ∀ as m, as.length = 3 → F_law_wide as m ≠ .stuck → OutS m (g__law_wide (startD 6 as) m) (F_law_wide as m) := by
  intro as m hl3 h
  unfold F_law_wide at h ⊢
  split at h <;> try exact absurd rfl h
  rename_i r n lim
  split at h <;> try exact absurd rfl h
  rename_i ns k e1 e2
  have er := intsOf_eq e1
  subst er
  split at h <;> try exact absurd rfl h
  rename_i hc
  obtain ⟨h0, ha, hl⟩ := hc
  have hn : ∀ x, (m.set n x)[n]? = some x := fun x => List.getElem?_set_self (List.getElem?_eq_some_iff.mp e2).1
  have e3 : k + 1 + 1 = k + 2 := by omega
  have e4 : k + 2 + 1 = k + 3 := by omega
  have k1 : 0 ≤ k + 1 := by omega
  have k2 : 0 ≤ k + 2 := by omega
  have hl0 : lim ≠ 0 := by omega
  simp [g__law_wide, e2, F_law_take, h0, ha, hl, hn, e3, e4, k1, k2, wideV, cmul_r, hl0, OutS]
  exact cut_set (c := .lst [.int (k + 3)]) trivial
theorem ok_law_wide {P : Program} {w : World} {K : PySem.W.Frag} {mg : Str → Option Value} {base : Heap} (d : DefOk K mg "_law_wide" "_law_wide" "_law_wide" (top 10)) (h__law_take : FnS P w K mg base 2 "_law_take" 3 F_law_take) (m_int : mg "int" = none) : FnS P w K mg base 3 "_law_wide" 3 F_law_wide :=
  okS d sc__law_wide rfl (fun _ _ _ _ _ _ us hl => match us, hl with | [_, _, _], _ => rfl) (sb__law_wide h__law_take m_int) eq_law_wide
/-! ### _law_raised -/
abbrev nm__law_raised : List Str := ["kind", "value"]
abbrev ps__law_raised : List Str := ["kind", "value"]
theorem sc__law_raised : FnScope nm__law_raised ps__law_raised (defScope (top 11)) := ⟨rfl, rfl, rfl, by decide +kernel, rfl, by decide +kernel, by decide +kernel⟩
theorem nd__law_raised : nm__law_raised.Nodup := sc__law_raised.nd
noncomputable def g__law_raised : Env → Mu → RS :=
  zSeq (zIf (xTst (xBin oEq (xVar 0) (xC (.int 0)))) (zRaise "BadValue" (xVar 1)) (zNil))
  (zSeq (zIf (xTst (xBin oEq (xVar 0) (xC (.int 1)))) (zRaise "BadLine" (xVar 1)) (zNil))
  (zRaise "BadSyntax" (xVar 1)))
theorem sb__law_raised {P : Program} {w : World} {K : PySem.W.Frag} {mg : Str → Option Value} {base : Heap} (e_BadValue : ErrK K mg "BadValue") (e_BadLine : ErrK K mg "BadLine") (e_BadSyntax : ErrK K mg "BadSyntax") : ∀ (f : Addr) cd A outer s H E, Cok (cxD P w K mg base nm__law_raised "_law_raised" (defScope (top 11)) f cd A outer s H E) (fun c d _ H => E c d H) 0 → SB (cxD P w K mg base nm__law_raised "_law_raised" (defScope (top 11)) f cd A outer s H E) (fun c d _ H => E c d H) (defBody (top 11)) g__law_raised := fun f cd A outer s H E C =>
  (sb_cons (ss_if (st_cmp (os_eq C.hr.units) (se_var 0 rfl (.inl rfl)) se_int (nomark _)) (sb_one (ss_raise C.calm e_BadValue (C.hr.mono (Nat.le_refl _)) C.tk (se_var 1 rfl (.inl rfl)) rfl)) sb_nil)
  (sb_cons (ss_if (st_cmp (os_eq C.hr.units) (se_var 0 rfl (.inl rfl)) se_int (nomark _)) (sb_one (ss_raise C.calm e_BadLine (C.hr.mono (Nat.le_refl _)) C.tk (se_var 1 rfl (.inl rfl)) rfl)) sb_nil)
  (sb_one (ss_raise C.calm e_BadSyntax (C.hr.mono (Nat.le_refl _)) C.tk (se_var 1 rfl (.inl rfl)) rfl))))
-- kind: P
def F_law_raised : List D → R0 := fun ds => match ds with
  | [.int k, .int v] => if k = 0 then .exc "BadValue" (.int v) else if k = 1 then .exc "BadLine" (.int v) else .exc "BadSyntax" (.int v)
  | _ => .stuck
theorem eq_law_raised : ∀ ds, ds.length = 2 → F_law_raised ds ≠ .stuck → outP (g__law_raised (startD 2 (ds.map .d)) []) = F_law_raised ds := by
  intro ds hl h
  unfold F_law_raised at h ⊢
  split at h <;> try exact absurd rfl h
  rename_i k v
  by_cases h0 : k = 0
  · simp [g__law_raised, h0]
  · by_cases h1 : k = 1
    · simp [g__law_raised, h1]
    · simp [g__law_raised, h0, h1]
theorem ok_law_raised {P : Program} {w : World} {K : PySem.W.Frag} {mg : Str → Option Value} {base : Heap} (d : DefOk K mg "_law_raised" "_law_raised" "_law_raised" (top 11)) (e_BadValue : ErrK K mg "BadValue") (e_BadLine : ErrK K mg "BadLine") (e_BadSyntax : ErrK K mg "BadSyntax") : FnP P w K mg base 1 "_law_raised" 2 F_law_raised :=
  okP d sc__law_raised rfl (fun _ _ _ _ _ _ us hl => match us, hl with | [_, _], _ => rfl) (sb__law_raised e_BadValue e_BadLine e_BadSyntax) eq_law_raised
/-! ### _law_so -/
abbrev nm__law_so : List Str := ["found", "meant", "k"]
abbrev ps__law_so : List Str := ["found", "meant"]
theorem sc__law_so : FnScope nm__law_so ps__law_so (defScope (top 6)) := ⟨rfl, rfl, rfl, by decide +kernel, rfl, by decide +kernel, by decide +kernel⟩
theorem nd__law_so : nm__law_so.Nodup := sc__law_so.nd
noncomputable def g__law_so : Env → Mu → RS :=
  zSeq (zIf (xTst (xBin oIsN (xVar 1) (xC .non))) (zRet (xBin oIsN (xVar 0) (xC .non))) (zNil))
  (zSeq (zIf (xTst (xCB (oIs OWN) (xCons (xVar 1) (xCons (xC (.ty "tuple")) (xNil))))) (zSeq (zIf (xOrT (xNotT (xTst (xCB (oIs OWN) (xCons (xVar 0) (xCons (xC (.ty "tuple")) (xNil)))))) (xTst (xBin oNe (xCB oLen (xCons (xVar 0) (xNil))) (xCB oLen (xCons (xVar 1) (xNil)))))) (zRet (xC (.bl false))) (zNil))
  (zSeq ((fun _ _ => .stuck))
  (zRet (xC (.bl true))))) (zNil))
  (zSeq (zIf (xOrT (xTst (xCB (oIs OWN) (xCons (xVar 1) (xCons (xC (.ty "bool")) (xNil))))) (xTst (xCB (oIs OWN) (xCons (xVar 0) (xCons (xC (.ty "bool")) (xNil)))))) (zRet (xAnd (xCB (oIs OWN) (xCons (xVar 1) (xCons (xC (.ty "bool")) (xNil)))) (xAnd (xCB (oIs OWN) (xCons (xVar 0) (xCons (xC (.ty "bool")) (xNil)))) (xBin oEq (xVar 0) (xVar 1))))) (zNil))
  (zSeq (zIf (xTst (xCB (oIs OWN) (xCons (xVar 1) (xCons (xC (.ty "int")) (xNil))))) (zRet (xAnd (xCB (oIs OWN) (xCons (xVar 0) (xCons (xC (.ty "int")) (xNil)))) (xBin oEq (xVar 0) (xVar 1)))) (zNil))
  (zRet (xAnd (xCB (oIs OWN) (xCons (xVar 1) (xCons (xC (.ty "str")) (xNil)))) (xAnd (xCB (oIs OWN) (xCons (xVar 0) (xCons (xC (.ty "str")) (xNil)))) (xBin oEq (xVar 0) (xVar 1))))))))
noncomputable def gh__law_so : Env → Mu → RS :=
  zSeq (zIf (xTst (xBin oIsN (xVar 1) (xC .non))) (zRet (xBin oIsN (xVar 0) (xC .non))) (zNil))
  (zSeq (zIf (xTst (xCB (oIs OWN) (xCons (xVar 1) (xCons (xC (.ty "tuple")) (xNil))))) (zSeq (zIf (xOrT (xNotT (xTst (xCB (oIs OWN) (xCons (xVar 0) (xCons (xC (.ty "tuple")) (xNil)))))) (xTst (xBin oNe (xCB oLen (xCons (xVar 0) (xNil))) (xCB oLen (xCons (xVar 1) (xNil)))))) (zRet (xC (.bl false))) (zNil))
  (zSeq ((fun _ _ => .stuck))
  (zRet (xC (.bl true))))) (zNil))
  (zSeq (zIf (xOrT (xTst (xCB (oIs OWN) (xCons (xVar 1) (xCons (xC (.ty "bool")) (xNil))))) (xTst (xCB (oIs OWN) (xCons (xVar 0) (xCons (xC (.ty "bool")) (xNil)))))) (zRet (xAnd (xCB (oIs OWN) (xCons (xVar 1) (xCons (xC (.ty "bool")) (xNil)))) (xAnd (xCB (oIs OWN) (xCons (xVar 0) (xCons (xC (.ty "bool")) (xNil)))) (xBin oEq (xVar 0) (xVar 1))))) (zNil))
  (zSeq (zIf (xTst (xCB (oIs OWN) (xCons (xVar 1) (xCons (xC (.ty "int")) (xNil))))) (zRet (xAnd (xCB (oIs OWN) (xCons (xVar 0) (xCons (xC (.ty "int")) (xNil)))) (xBin oEq (xVar 0) (xVar 1)))) (zNil))
  (zRet (xAnd (xCB (oIs OWN) (xCons (xVar 1) (xCons (xC (.ty "str")) (xNil)))) (xAnd (xCB (oIs OWN) (xCons (xVar 0) (xCons (xC (.ty "str")) (xNil)))) (xBin oEq (xVar 0) (xVar 1))))))))
theorem sbh__law_so {P : Program} {w : World} {K : PySem.W.Frag} {mg : Str → Option Value} {base : Heap} (m_tuple : mg "tuple" = none) (m_isinstance : mg "isinstance" = none) (kI : IsiK K OWN) (m_len : mg "len" = none) (m_bool : mg "bool" = none) (m_int : mg "int" = none) (m_str : mg "str" = none) : ∀ (f : Addr) cd A outer s H E p, CokH (cxHD P w K mg base nm__law_so "_law_so" (defScope (top 6)) f cd A outer s H E p) (fun c d _ H => E c d H) 0 → SB (cxHD P w K mg base nm__law_so "_law_so" (defScope (top 6)) f cd A outer s H E p) (fun c d _ H => E c d H) (defBody (top 6)) gh__law_so := fun f cd A outer s H E p C =>
  (sb_cons (ss_if (st_cmp os_isN (se_var 1 rfl (.inl rfl)) se_non (nomark _)) (sb_one (ss_ret (se_cmp os_isN (se_var 0 rfl (.inl rfl)) se_non (nomark _)))) sb_nil)
  (sb_cons (ss_if (st_val (se_cb (cs_is kI) rfl m_isinstance (by decide +kernel) (sa_cons (se_var 1 rfl (.inl rfl)) (sa_cons (se_tyN rfl m_tuple (by decide +kernel)) sa_nil)))) (sb_cons (ss_if (sw_st (sw_or (st_not (st_val (se_cb (cs_is kI) rfl m_isinstance (by decide +kernel) (sa_cons (se_var 0 rfl (.inl rfl)) (sa_cons (se_tyN rfl m_tuple (by decide +kernel)) sa_nil))))) (sw_or1 (st_cmp (os_ne (unH C.hr)) (se_cb cs_len rfl m_len (by decide +kernel) (sa_cons (se_var 0 rfl (.inl rfl)) sa_nil)) (se_cb cs_len rfl m_len (by decide +kernel) (sa_cons (se_var 1 rfl (.inl rfl)) sa_nil)) (nomark _))))) (sb_one (ss_ret se_bl)) sb_nil)
  (sb_cons ss_dead
  (sb_one (ss_ret se_bl)))) sb_nil)
  (sb_cons (ss_if (sw_st (sw_or (st_val (se_cb (cs_is kI) rfl m_isinstance (by decide +kernel) (sa_cons (se_var 1 rfl (.inl rfl)) (sa_cons (se_tyN rfl m_bool (by decide +kernel)) sa_nil)))) (sw_or1 (st_val (se_cb (cs_is kI) rfl m_isinstance (by decide +kernel) (sa_cons (se_var 0 rfl (.inl rfl)) (sa_cons (se_tyN rfl m_bool (by decide +kernel)) sa_nil))))))) (sb_one (ss_ret (se_and (se_cb (cs_is kI) rfl m_isinstance (by decide +kernel) (sa_cons (se_var 1 rfl (.inl rfl)) (sa_cons (se_tyN rfl m_bool (by decide +kernel)) sa_nil))) (se_and (se_cb (cs_is kI) rfl m_isinstance (by decide +kernel) (sa_cons (se_var 0 rfl (.inl rfl)) (sa_cons (se_tyN rfl m_bool (by decide +kernel)) sa_nil))) (se_one (se_cmp (os_eq (unH C.hr)) (se_var 0 rfl (.inl rfl)) (se_var 1 rfl (.inl rfl)) (nomark _))))))) sb_nil)
  (sb_cons (ss_if (st_val (se_cb (cs_is kI) rfl m_isinstance (by decide +kernel) (sa_cons (se_var 1 rfl (.inl rfl)) (sa_cons (se_tyN rfl m_int (by decide +kernel)) sa_nil)))) (sb_one (ss_ret (se_and (se_cb (cs_is kI) rfl m_isinstance (by decide +kernel) (sa_cons (se_var 0 rfl (.inl rfl)) (sa_cons (se_tyN rfl m_int (by decide +kernel)) sa_nil))) (se_one (se_cmp (os_eq (unH C.hr)) (se_var 0 rfl (.inl rfl)) (se_var 1 rfl (.inl rfl)) (nomark _)))))) sb_nil)
  (sb_one (ss_ret (se_and (se_cb (cs_is kI) rfl m_isinstance (by decide +kernel) (sa_cons (se_var 1 rfl (.inl rfl)) (sa_cons (se_tyN rfl m_str (by decide +kernel)) sa_nil))) (se_and (se_cb (cs_is kI) rfl m_isinstance (by decide +kernel) (sa_cons (se_var 0 rfl (.inl rfl)) (sa_cons (se_tyN rfl m_str (by decide +kernel)) sa_nil))) (se_one (se_cmp (os_eq (unH C.hr)) (se_var 0 rfl (.inl rfl)) (se_var 1 rfl (.inl rfl)) (nomark _)))))))))))
-- kind: P
-- hot: 1
-- deadfor: 1
def F_law_soH : List D → R0 := fun ds => match ds with
  | [.int a, .int b] => .ok (.bl (a == b))
  | _ => .stuck
theorem eqh_law_so : ∀ ds, ds.length = 2 → F_law_soH ds ≠ .stuck → outP (gh__law_so (startD 3 (ds.map .d)) []) = F_law_soH ds := by
  intro ds hl h
  unfold F_law_soH at h ⊢
  split at h <;> try exact absurd rfl h
  rename_i a b
  simp [gh__law_so]
theorem okh_law_so {P : Program} {w : World} {K : PySem.W.Frag} {mg : Str → Option Value} {base : Heap} (d : DefOk K mg "_law_so" "_law_so" "_law_so" (top 6)) (m_tuple : mg "tuple" = none) (m_isinstance : mg "isinstance" = none) (kI : IsiK K OWN) (m_len : mg "len" = none) (m_bool : mg "bool" = none) (m_int : mg "int" = none) (m_str : mg "str" = none) : FnPH P w K mg base 1 "_law_so" 2 F_law_soH :=
  okPH d sc__law_so rfl (fun _ _ _ _ _ _ us hl => match us, hl with | [_, _], _ => rfl) (sbh__law_so m_tuple m_isinstance kI m_len m_bool m_int m_str) eqh_law_so
/-! ### law -/
abbrev nm_law : List Str := ["script", "row", "spot", "kind", "value", "error", "own", "k"]
abbrev ps_law : List Str := ["script"]
theorem sc_law : FnScope nm_law ps_law (defScope (top 12)) := ⟨rfl, rfl, rfl, by decide +kernel, rfl, by decide +kernel, by decide +kernel⟩
theorem nd_law : nm_law.Nodup := sc_law.nd
noncomputable def lp1_law : Env → Mu → RS :=
  zIf (xTst (xBin oNe (xBin oIx (xVar 6) (xVar 7)) (xBin oEq (xVar 7) (xVar 3)))) (zRet (xC (.bl false))) (zNil)
noncomputable def g_law : Env → Mu → RS :=
  zSeq (zAsg (xCallP 1 F_law_numbers (xCons (xVar 0) (xNil))) (gN 1))
  (zSeq (zAsg (xCel (xLst (xCons (xC (.int 0)) (xNil)))) (gN 2))
  (zSeq (zAsg (xCallS 3 F_law_take (xCons (xVar 1) (xCons (xVar 2) (xCons (xC (.int 3)) (xNil))))) (gN 3))
  (zSeq (zAsg (xBin oSub (xCallS 3 F_law_wide (xCons (xVar 1) (xCons (xVar 2) (xCons (xBin oPow (xC (.int 10)) (xC (.int 9))) (xNil))))) (xBin oMul (xC (.int 5)) (xBin oPow (xC (.int 10)) (xC (.int 8))))) (gN 4))
  (zSeq (zTry ERRS (zExpr (xCallP 2 F_law_raised (xCons (xVar 3) (xCons (xVar 4) (xNil))))) [⟨"PageError", some 5, fun c a dd => zSeq (zAsg (xFrz (xLst (xCons (xCB (oIsE c a dd ERRP ERRT) (xCons (xVar 5) (xCons (xC (.cls "BadValue")) (xNil)))) (xCons (xCB (oIsE c a dd ERRP ERRT) (xCons (xVar 5) (xCons (xC (.cls "BadLine")) (xNil)))) (xCons (xCB (oIsE c a dd ERRP ERRT) (xCons (xVar 5) (xCons (xC (.cls "BadSyntax")) (xNil)))) (xNil)))))) (gN 6))
  (zSeq (zFor (iRng iRg1 (xCons (xC (.int 3)) (xNil))) (gN 7) lp1_law)
  (zSeq (zIf (xOrT (xTst (xCB (oIsE c a dd ERRP ERRT) (xCons (xVar 5) (xCons (xC (.ty "ValueError")) (xNil))))) (xOrT (xTst (xCB (oIsE c a dd ERRP ERRT) (xCons (xVar 5) (xCons (xC (.ty "LookupError")) (xNil))))) (xTst (xCB (oIsE c a dd ERRP ERRT) (xCons (xVar 5) (xCons (xC (.ty "ArithmeticError")) (xNil))))))) (zRet (xC (.bl false))) (zNil))
  (zRet (xCallP 2 F_law_soH (xCons (xAt a dd c (xVar 5)) (xCons (xVar 4) (xNil)))))))⟩])
  (zRet (xC (.bl false)))))))
theorem sb_law {P : Program} {w : World} {K : PySem.W.Frag} {mg : Str → Option Value} {base : Heap} (h__law_numbers : FnP P w K mg base 1 "_law_numbers" 1 F_law_numbers) (h__law_take : FnS P w K mg base 2 "_law_take" 3 F_law_take) (h__law_wide : FnS P w K mg base 3 "_law_wide" 3 F_law_wide) (h__law_raised : FnP P w K mg base 1 "_law_raised" 2 F_law_raised) (c_BadSyntax : mg "BadSyntax" = some (.ref (cA K "BadSyntax"))) (m_isinstance : mg "isinstance" = none) (kE : ∀ c, ERRS.contains c = true → ExcK K c ERRP ERRT) (c_BadLine : mg "BadLine" = some (.ref (cA K "BadLine"))) (c_BadValue : mg "BadValue" = some (.ref (cA K "BadValue"))) (m_range : mg "range" = none) (m_ValueError : mg "ValueError" = none) (m_LookupError : mg "LookupError" = none) (m_ArithmeticError : mg "ArithmeticError" = none) (hh__law_so : FnPH P w K mg base 1 "_law_so" 2 F_law_soH) (eE : ∀ c, ERRS.contains c = true → ErrK K mg c) (c_PageError : mg "PageError" = some (.ref (cA K "PageError"))) (x_PageError : ∀ c, ERRS.contains c = true → PySem.W.exmOne K (.ref (cA K c)) (.ref (cA K "PageError")) = some (excSub c "PageError")) : ∀ (f : Addr) cd A outer s H E, Cok (cxD P w K mg base nm_law "law" (defScope (top 12)) f cd A outer s H E) (fun c d _ H => E c d H) 3 → SB (cxD P w K mg base nm_law "law" (defScope (top 12)) f cd A outer s H E) (fun c d _ H => E c d H) (defBody (top 12)) g_law := fun f cd A outer s H E C =>
  (sb_cons (ss_set (i := 1) nd_law rfl (.inl rfl) (se_callP h__law_numbers (C.hr.mono (by decide)) C.tk rfl (sa_cons (se_var 0 rfl (.inl rfl)) sa_nil)))
  (sb_cons (ss_set (i := 2) nd_law rfl (.inl rfl) (sf_cel (sf_lst (sa_cons se_int sa_nil))))
  (sb_cons (ss_set (i := 3) nd_law rfl (.inl rfl) (se_callS h__law_take (C.hr.mono (by decide)) C.tk rfl (sa_cons (se_var 1 rfl (.inl rfl)) (sa_cons (se_var 2 rfl (.inl rfl)) (sa_cons se_int sa_nil)))))
  (sb_cons (ss_set (i := 4) nd_law rfl (.inl rfl) (se_op os_sub (se_callS h__law_wide (C.hr.mono (by decide)) C.tk rfl (sa_cons (se_var 1 rfl (.inl rfl)) (sa_cons (se_var 2 rfl (.inl rfl)) (sa_cons (se_op os_pow se_int se_int) sa_nil)))) (se_op os_mul se_int (se_op os_pow se_int se_int))))
  (sb_cons (ss_try nd_law rfl rfl C.tk (fun W2 pn2 xe2 tk2 po2 => (sb_one (ss_expr (se_callP h__law_raised (C.hr.mono (by decide)) tk2 rfl (sa_cons (se_var 3 rfl (.inl rfl)) (sa_cons (se_var 4 rfl (.inl rfl)) sa_nil))))))
  (HsOk.cons (h := ⟨"PageError", some 5, fun c a dd => zSeq (zAsg (xFrz (xLst (xCons (xCB (oIsE c a dd ERRP ERRT) (xCons (xVar 5) (xCons (xC (.cls "BadValue")) (xNil)))) (xCons (xCB (oIsE c a dd ERRP ERRT) (xCons (xVar 5) (xCons (xC (.cls "BadLine")) (xNil)))) (xCons (xCB (oIsE c a dd ERRP ERRT) (xCons (xVar 5) (xCons (xC (.cls "BadSyntax")) (xNil)))) (xNil)))))) (gN 6))
  (zSeq (zFor (iRng iRg1 (xCons (xC (.int 3)) (xNil))) (gN 7) lp1_law)
  (zSeq (zIf (xOrT (xTst (xCB (oIsE c a dd ERRP ERRT) (xCons (xVar 5) (xCons (xC (.ty "ValueError")) (xNil))))) (xOrT (xTst (xCB (oIsE c a dd ERRP ERRT) (xCons (xVar 5) (xCons (xC (.ty "LookupError")) (xNil))))) (xTst (xCB (oIsE c a dd ERRP ERRT) (xCons (xVar 5) (xCons (xC (.ty "ArithmeticError")) (xNil))))))) (zRet (xC (.bl false))) (zNil))
  (zRet (xCallP 2 F_law_soH (xCons (xAt a dd c (xVar 5)) (xCons (xVar 4) (xNil)))))))⟩) ⟨rfl, by decide, .inl c_PageError⟩ (.inr ⟨_, _, rfl, rfl, rfl, rfl⟩) x_PageError (fun c hc a dd oe pn hz hf => (sb_cons (ss_set (i := 6) nd_law rfl (.inl rfl) (sf_frz (sf_lst (sa_cons (se_cb (cs_isE (kE c hc) hz.zc hf) rfl m_isinstance (by decide +kernel) (sa_cons (se_var 5 rfl (.inl rfl)) (sa_cons (se_clsN rfl c_BadValue) sa_nil))) (sa_cons (se_cb (cs_isE (kE c hc) hz.zc hf) rfl m_isinstance (by decide +kernel) (sa_cons (se_var 5 rfl (.inl rfl)) (sa_cons (se_clsN rfl c_BadLine) sa_nil))) (sa_cons (se_cb (cs_isE (kE c hc) hz.zc hf) rfl m_isinstance (by decide +kernel) (sa_cons (se_var 5 rfl (.inl rfl)) (sa_cons (se_clsN rfl c_BadSyntax) sa_nil))) sa_nil))))))
  (sb_cons (ss_forH PassesOwn.never (suite_hot hz hf) (si_range1H rfl m_range (sa_cons se_int sa_nil)) (sg_name (i := 7) nd_law rfl (.inl rfl)) (sb_one (ss_if (st_cmp (os_ne C.hr.units) (se_ix (se_var 6 rfl (.inl rfl)) (se_var 7 rfl (.inl rfl)) (fun _ _ => rfl)) (se_cmp (os_eq C.hr.units) (se_var 7 rfl (.inl rfl)) (se_var 3 rfl (.inl rfl)) (nomark _)) (nomark _)) (sb_one (ss_ret se_bl)) sb_nil)))
  (sb_cons (ss_if (sw_st (sw_or (st_val (se_cb (cs_isE (kE c hc) hz.zc hf) rfl m_isinstance (by decide +kernel) (sa_cons (se_var 5 rfl (.inl rfl)) (sa_cons (se_tyN rfl m_ValueError (by decide +kernel)) sa_nil)))) (sw_or (st_val (se_cb (cs_isE (kE c hc) hz.zc hf) rfl m_isinstance (by decide +kernel) (sa_cons (se_var 5 rfl (.inl rfl)) (sa_cons (se_tyN rfl m_LookupError (by decide +kernel)) sa_nil)))) (sw_or1 (st_val (se_cb (cs_isE (kE c hc) hz.zc hf) rfl m_isinstance (by decide +kernel) (sa_cons (se_var 5 rfl (.inl rfl)) (sa_cons (se_tyN rfl m_ArithmeticError (by decide +kernel)) sa_nil)))))))) (sb_one (ss_ret se_bl)) sb_nil)
  (sb_one (ss_ret (se_callPH hh__law_so (roomS (C.hr.mono (by decide))) (suite_hot hz hf) (suite_takes (fun _ _ _ _ z => z)) rfl (sa_cons (se_at (eE c hc) hz hf (se_var 5 rfl (.inl rfl))) (sa_cons (se_var 4 rfl (.inl rfl)) sa_nil)))))))))
  HsOk.nil))
  (sb_one (ss_ret se_bl)))))))
-- kind: P
-- lists: own
-- mut: spot
def F_law : List D → R0 := fun ds => match ds with
  | [.scr s] => if s.length ≤ 63 then .ok (.bl true) else .stuck
  | _ => .stuck
theorem eq_law : ∀ ds, ds.length = 1 → F_law ds ≠ .stuck → outP (g_law (startD 8 (ds.map .d)) []) = F_law ds := by
  intro ds hl h
  unfold F_law at h ⊢
  split at h <;> try exact absurd rfl h
  rename_i s
  split at h <;> try exact absurd rfl h
  rename_i hs
  have hn := numbersV_ne hs
  have h1 := drawV_lo (ns := numbersV s) (a := 0) (lim := 3) (by decide)
  have h2 := drawV_hi (ns := numbersV s) (a := 0) (lim := 3) (by decide)
  have hk : drawV (numbersV s) 0 3 = 0 ∨ drawV (numbersV s) 0 3 = 1 ∨ drawV (numbersV s) 0 3 = 2 := by omega
  have p9 : CPow 10 9 := ⟨by decide, by decide, by decide⟩
  have p8 : CPow 10 8 := ⟨by decide, by decide, by decide⟩
  have m5 : CMul 5 100000000 := cmul_r (by decide) (by decide)
  rcases hk with hk | hk | hk <;> simp [g_law, F_law_numbers, hs, F_law_take, hn, hk, F_law_wide, F_law_raised, F_law_soH, lp1_law, rngD, sizeLine_eq, p9, p8, m5, List.range_succ, atI, ixN]
theorem F_law_ok {ns : List Int} (h : ns.length ≤ 63) : F_law [.scr ns] = .ok (.bl true) := by
  unfold F_law
  simp [h]
theorem ok_law {P : Program} {w : World} {K : PySem.W.Frag} {mg : Str → Option Value} {base : Heap} (d : DefOk K mg "law" "law" "law" (top 12)) (h__law_numbers : FnP P w K mg base 1 "_law_numbers" 1 F_law_numbers) (h__law_take : FnS P w K mg base 2 "_law_take" 3 F_law_take) (h__law_wide : FnS P w K mg base 3 "_law_wide" 3 F_law_wide) (h__law_raised : FnP P w K mg base 1 "_law_raised" 2 F_law_raised) (c_BadSyntax : mg "BadSyntax" = some (.ref (cA K "BadSyntax"))) (m_isinstance : mg "isinstance" = none) (kE : ∀ c, ERRS.contains c = true → ExcK K c ERRP ERRT) (c_BadLine : mg "BadLine" = some (.ref (cA K "BadLine"))) (c_BadValue : mg "BadValue" = some (.ref (cA K "BadValue"))) (m_range : mg "range" = none) (m_ValueError : mg "ValueError" = none) (m_LookupError : mg "LookupError" = none) (m_ArithmeticError : mg "ArithmeticError" = none) (hh__law_so : FnPH P w K mg base 1 "_law_so" 2 F_law_soH) (eE : ∀ c, ERRS.contains c = true → ErrK K mg c) (c_PageError : mg "PageError" = some (.ref (cA K "PageError"))) (x_PageError : ∀ c, ERRS.contains c = true → PySem.W.exmOne K (.ref (cA K c)) (.ref (cA K "PageError")) = some (excSub c "PageError")) : FnP P w K mg base 4 "law" 1 F_law :=
  okP d sc_law rfl (fun _ _ _ _ _ _ us hl => match us, hl with | [_], _ => rfl) (sb_law h__law_numbers h__law_take h__law_wide h__law_raised c_BadSyntax m_isinstance kE c_BadLine c_BadValue m_range m_ValueError m_LookupError m_ArithmeticError hh__law_so eE c_PageError x_PageError) eq_law
end DL
set_option maxHeartbeats 0
namespace HeadT
open PySem PySem.Spec PyProof.Rows L2 DL
def d0 : He.DefD := ⟨("BadValue", some "__init__"), "__init__", "BadValue.__init__", defArgs (inClass (top 2) 0), defBody (inClass (top 2) 0), defScope (inClass (top 2) 0), [], []⟩
def d1 : He.DefD := ⟨("BadLine", some "__init__"), "__init__", "BadLine.__init__", defArgs (inClass (top 3) 0), defBody (inClass (top 3) 0), defScope (inClass (top 3) 0), [], []⟩
def d2 : He.DefD := ⟨("BadSyntax", some "__init__"), "__init__", "BadSyntax.__init__", defArgs (inClass (top 4) 0), defBody (inClass (top 4) 0), defScope (inClass (top 4) 0), [], []⟩
def d3 : He.DefD := ⟨("_law_so", none), "_law_so", "_law_so", defArgs (top 6), defBody (top 6), defScope (top 6), [], []⟩
def d4 : He.DefD := ⟨("_law_numbers", none), "_law_numbers", "_law_numbers", defArgs (top 7), defBody (top 7), defScope (top 7), [], []⟩
def d5 : He.DefD := ⟨("_law_draw", none), "_law_draw", "_law_draw", defArgs (top 8), defBody (top 8), defScope (top 8), [], []⟩
def d6 : He.DefD := ⟨("_law_take", none), "_law_take", "_law_take", defArgs (top 9), defBody (top 9), defScope (top 9), [], []⟩
def d7 : He.DefD := ⟨("_law_wide", none), "_law_wide", "_law_wide", defArgs (top 10), defBody (top 10), defScope (top 10), [], []⟩
def d8 : He.DefD := ⟨("_law_raised", none), "_law_raised", "_law_raised", defArgs (top 11), defBody (top 11), defScope (top 11), [], []⟩
def d9 : He.DefD := ⟨("law", none), "law", "law", defArgs (top 12), defBody (top 12), defScope (top 12), [], []⟩
def fn : List He.DefD := [d0, d1, d2, d3, d4, d5, d6, d7, d8, d9]
def fa0 : List He.Fa := [.free "range", .free "int", .free "len", .glo "BadValue", .glo "BadLine", .glo "BadSyntax", .free "tuple", .free "isinstance", .free "bool", .free "str", .free "ValueError", .free "LookupError", .free "ArithmeticError", .glo "PageError", .glo "_law_numbers", .glo "_law_draw", .glo "_law_take", .glo "_law_wide", .glo "_law_raised", .glo "_law_so"]
def fa1 : List He.Fa := [.glo "law"]
def fa : List He.Fa := fa0 ++ fa1
def nm0 : List PySem.Str := ["PageError", "BadValue", "BadLine", "BadSyntax", "_law_so", "_law_numbers", "_law_draw", "_law_take", "_law_wide", "_law_raised"]
def names : List PySem.Str := nm0
abbrev R : PySem.W.OpenRow := PySem.W.OpenLaw.row PySem.Challenge.rw_pagesonce_k00_errors
abbrev MM : Nat := 20000
def ex (K : PySem.W.Frag) : Bool := (ERRS.all fun c => errB K c) && (isiB K OWN && ((ERRS.all fun c => excKB K ERRP ERRT c) && (exmB K ERRS "PageError" && (true))))
abbrev hk : PySem.W.Hook := He.hookX 6 fa fn [] [] ex
def ob (s : PySem.W.SharedT) : He.AlX := He.obsX 6 fa fn [] [] ex (HandSHeadRun.getT s)
theorem ob_eq (s : PySem.W.SharedT) : ob s = hk.obs s.abs := He.obsX_eq (HandSHeadRun.getT_eq s)
theorem map3 {A B C D : Type} {x : Option A} {f : A -> B} {g : A -> C} {h : A -> D} {b : B} {c : C} {d : D} (hf : x.map f = some b) (hg : x.map g = some c) (hh : x.map h = some d) : x.map (fun s => (f s, g s, h s)) = some (b, c, d) := by
  cases x with
  | none => cases hf
  | some a =>
    cases hf; cases hg; cases hh; rfl
section
open PySem.W HandSHeadRun
variable (r : OpenRow) (q : Program) (H : Hook) (ob : SharedT → H.α) (M : Nat) (loose : List PySem.Str) (w : World)
def EqA : Prop := ∀ os : OsState, (endF (stepQ (denQ tabQ) r.prog w) M r.prog w os).map (fun s => looksF r.prog (boot_heap w.params) s.abs) = some true
def EqB : Prop := ∀ os : OsState, (endF (stepQ (denQ tabQ) r.prog w) M r.prog w os).map (fun s => seenQ q loose (importedModules r.prog.main.body) (fun s => xlAt q [] s && recOk r.toRowW.records s) s.abs) = some (openGood q loose)
def EqC : Prop := ∀ os : OsState, (endF (stepQ (denQ tabQ) r.prog w) M r.prog w os).map ob = some (H.val w)
theorem runEq_of (a : EqA r M w) (b : EqB r q M loose w) (c : EqC r H ob M w) : RunEq r q H ob M loose w := fun os => map3 (a os) (b os) (c os)
end
abbrev qv : Program := PySem.W.view R.prog [12]
theorem runA (w : World) : EqA R MM w := by
  intro os
  kernel_rfl
theorem runB (w : World) : EqB R qv MM names w := by
  intro os
  kernel_rfl
theorem runC (w : World) : EqC R hk ob MM w := by
  intro os
  kernel_rfl
theorem run (w : World) : HandSHeadRun.RunEq R qv hk ob MM names w := runEq_of R qv hk ob MM names w (runA w) (runB w) (runC w)
end HeadT
set_option maxHeartbeats 0
namespace HeadT
open PySem PySem.Spec PyProof.Rows L2 DL
theorem exs_of {K : PySem.W.Frag} (h : ex K = true) : (ERRS.all fun c => errB K c) = true ∧ isiB K OWN = true ∧ (ERRS.all fun c => excKB K ERRP ERRT c) = true ∧ exmB K ERRS "PageError" = true := by
  unfold ex at h
  obtain ⟨x0, h⟩ := He.ba h
  obtain ⟨x1, h⟩ := He.ba h
  obtain ⟨x2, h⟩ := He.ba h
  obtain ⟨x3, h⟩ := He.ba h
  exact ⟨x0, x1, x2, x3⟩
theorem facts {P : Program} {w : World} {K : PySem.W.Frag} {h : Heap} {mg : PySem.Str → Option Value} {f : Addr} (X : K.In h) (G : h.Ns mainGlobals mg) (hfa : mg ("law" : PySem.Str) = some (.ref f)) (c : He.SaysX fa fn [] [] ex w h K) :
    ∃ fd : FuncData, (∀ (s : Shared) (v : Value), BindsTo s fd ⟨[v], []⟩ [("script", v)]) ∧ ∀ base : Heap, K.In base → base.Ns mainGlobals mg → FnOk P w K mg base (L2N.CX P w) 4 f fd ["script"] (SpP K 1 F_law) := by
  have c0 := c.t.d
  obtain ⟨x0, x1, x2, x3⟩ := exs_of c.more
  have m_range : mg "range" = none := He.free_ok X G (c0.fact 0 (f := .free "range") rfl)
  have m_int : mg "int" = none := He.free_ok X G (c0.fact 1 (f := .free "int") rfl)
  have m_len : mg "len" = none := He.free_ok X G (c0.fact 2 (f := .free "len") rfl)
  have c_BadValue : mg "BadValue" = some (.ref (cA K "BadValue")) := He.glo_ok X G (c0.fact 3 (f := .glo "BadValue") rfl)
  have c_BadLine : mg "BadLine" = some (.ref (cA K "BadLine")) := He.glo_ok X G (c0.fact 4 (f := .glo "BadLine") rfl)
  have c_BadSyntax : mg "BadSyntax" = some (.ref (cA K "BadSyntax")) := He.glo_ok X G (c0.fact 5 (f := .glo "BadSyntax") rfl)
  have m_tuple : mg "tuple" = none := He.free_ok X G (c0.fact 6 (f := .free "tuple") rfl)
  have m_isinstance : mg "isinstance" = none := He.free_ok X G (c0.fact 7 (f := .free "isinstance") rfl)
  have m_bool : mg "bool" = none := He.free_ok X G (c0.fact 8 (f := .free "bool") rfl)
  have m_str : mg "str" = none := He.free_ok X G (c0.fact 9 (f := .free "str") rfl)
  have m_ValueError : mg "ValueError" = none := He.free_ok X G (c0.fact 10 (f := .free "ValueError") rfl)
  have m_LookupError : mg "LookupError" = none := He.free_ok X G (c0.fact 11 (f := .free "LookupError") rfl)
  have m_ArithmeticError : mg "ArithmeticError" = none := He.free_ok X G (c0.fact 12 (f := .free "ArithmeticError") rfl)
  have c_PageError : mg "PageError" = some (.ref (cA K "PageError")) := He.glo_ok X G (c0.fact 13 (f := .glo "PageError") rfl)
  have c__law_numbers : mg "_law_numbers" = some (.ref (cA K "_law_numbers")) := He.glo_ok X G (c0.fact 14 (f := .glo "_law_numbers") rfl)
  have c__law_draw : mg "_law_draw" = some (.ref (cA K "_law_draw")) := He.glo_ok X G (c0.fact 15 (f := .glo "_law_draw") rfl)
  have c__law_take : mg "_law_take" = some (.ref (cA K "_law_take")) := He.glo_ok X G (c0.fact 16 (f := .glo "_law_take") rfl)
  have c__law_wide : mg "_law_wide" = some (.ref (cA K "_law_wide")) := He.glo_ok X G (c0.fact 17 (f := .glo "_law_wide") rfl)
  have c__law_raised : mg "_law_raised" = some (.ref (cA K "_law_raised")) := He.glo_ok X G (c0.fact 18 (f := .glo "_law_raised") rfl)
  have c__law_so : mg "_law_so" = some (.ref (cA K "_law_so")) := He.glo_ok X G (c0.fact 19 (f := .glo "_law_so") rfl)
  have c_law : mg "law" = some (.ref (cA K "law")) := He.glo_ok X G (c0.fact 20 (f := .glo "law") rfl)
  have xe := List.all_eq_true.mp x0
  have e_BadValue : ErrK K mg "BadValue" := by
    obtain ⟨fd, F⟩ := c0.def_ 0 (d := d0) rfl
    exact errK_of (qn := "BadValue.__init__") (st := (inClass (top 2) 0)) (xe _ (by decide)) c_BadValue F ⟨_, _, _, _, _, _, rfl, rfl, rfl⟩
  have e_BadLine : ErrK K mg "BadLine" := by
    obtain ⟨fd, F⟩ := c0.def_ 1 (d := d1) rfl
    exact errK_of (qn := "BadLine.__init__") (st := (inClass (top 3) 0)) (xe _ (by decide)) c_BadLine F ⟨_, _, _, _, _, _, rfl, rfl, rfl⟩
  have e_BadSyntax : ErrK K mg "BadSyntax" := by
    obtain ⟨fd, F⟩ := c0.def_ 2 (d := d2) rfl
    exact errK_of (qn := "BadSyntax.__init__") (st := (inClass (top 4) 0)) (xe _ (by decide)) c_BadSyntax F ⟨_, _, _, _, _, _, rfl, rfl, rfl⟩
  have eE : ∀ c, ERRS.contains c = true → ErrK K mg c := fun c hc => by
    have hc2 : c ∈ ERRS := by simpa using hc
    rcases List.mem_cons.mp hc2 with rfl | hc3
    · exact e_BadValue
    · rcases List.mem_cons.mp hc3 with rfl | hc4
      · exact e_BadLine
      · rw [List.mem_singleton.mp hc4]
        exact e_BadSyntax
  have kI := isiB_ok x1
  have kE : ∀ c, ERRS.contains c = true → ExcK K c ERRP ERRT := fun c hc => excKB_ok (List.all_eq_true.mp x2 c (by simpa using hc))
  have x_PageError := exmB_ok x3
  have do__law_numbers : DefOk K mg "_law_numbers" "_law_numbers" "_law_numbers" (top 7) := by
    obtain ⟨fd, F⟩ := c0.def_ 4 (d := d4) rfl
    exact ⟨_, fd, c__law_numbers, F⟩
  have do__law_draw : DefOk K mg "_law_draw" "_law_draw" "_law_draw" (top 8) := by
    obtain ⟨fd, F⟩ := c0.def_ 5 (d := d5) rfl
    exact ⟨_, fd, c__law_draw, F⟩
  have do__law_take : DefOk K mg "_law_take" "_law_take" "_law_take" (top 9) := by
    obtain ⟨fd, F⟩ := c0.def_ 6 (d := d6) rfl
    exact ⟨_, fd, c__law_take, F⟩
  have do__law_wide : DefOk K mg "_law_wide" "_law_wide" "_law_wide" (top 10) := by
    obtain ⟨fd, F⟩ := c0.def_ 7 (d := d7) rfl
    exact ⟨_, fd, c__law_wide, F⟩
  have do__law_raised : DefOk K mg "_law_raised" "_law_raised" "_law_raised" (top 11) := by
    obtain ⟨fd, F⟩ := c0.def_ 8 (d := d8) rfl
    exact ⟨_, fd, c__law_raised, F⟩
  have do__law_so : DefOk K mg "_law_so" "_law_so" "_law_so" (top 6) := by
    obtain ⟨fd, F⟩ := c0.def_ 3 (d := d3) rfl
    exact ⟨_, fd, c__law_so, F⟩
  obtain ⟨fdl, Fl⟩ := c0.def_ 9 (d := d9) rfl
  have el : f = He.ga K "law" := by
    rw [hfa] at c_law
    injection c_law with e
    injection e
  subst el
  refine ⟨fdl, fun s v => FunD.bindsA (ps := ["script"]) Fl (fun _ _ _ _ _ _ us hl => match us, hl with | [_], _ => rfl) s [v] rfl, fun base hb1 hb2 => ?_⟩
  have h__law_numbers := ok_law_numbers (P := P) (w := w) (base := base) do__law_numbers m_range m_int m_len
  have h__law_draw := ok_law_draw (P := P) (w := w) (base := base) do__law_draw m_len m_int
  have h__law_take := ok_law_take (P := P) (w := w) (base := base) do__law_take h__law_draw
  have h__law_wide := ok_law_wide (P := P) (w := w) (base := base) do__law_wide h__law_take m_int
  have h__law_raised := ok_law_raised (P := P) (w := w) (base := base) do__law_raised e_BadValue e_BadLine e_BadSyntax
  have hh__law_so := okh_law_so (P := P) (w := w) (base := base) do__law_so m_tuple m_isinstance kI m_len m_bool m_int m_str
  exact fnOk_of Fl sc_law rfl (sb_law h__law_numbers h__law_take h__law_wide h__law_raised c_BadSyntax m_isinstance kE c_BadLine c_BadValue m_range m_ValueError m_LookupError m_ArithmeticError hh__law_so eE c_PageError x_PageError) eq_law
end HeadT
open PySem PySem.W PySem.Calls PyProof.Rows
theorem PySem.Challenge.cw_pagesonce_k00_errors_holds : PySem.Challenge.rw_pagesonce_k00_errors.Holds := by
  w_on; o_law
  refine HandSHeadRun.head_any (r := OpenLaw.row PySem.Challenge.rw_pagesonce_k00_errors) (q := view (OpenLaw.row PySem.Challenge.rw_pagesonce_k00_errors).prog [12]) (H := HeadT.hk) (ob := HeadT.ob) (M := HeadT.MM) (loose := HeadT.names) (d := HandSHeadRun.topDef (OpenLaw.row PySem.Challenge.rw_pagesonce_k00_errors).prog 12) (kwd := []) HeadT.ob_eq
    (by kernel_rfl) (fun s => by kernel_rfl) HeadT.run (by kernel_rfl) (by kernel_rfl) (by kernel_rfl) (by rfl) (by first | assumption | decide +kernel) (by decide +kernel) ⟨rfl, rfl, rfl, rfl, rfl, by decide +kernel⟩ ?hw ?hc
  case hw => w_witness2
  case hc =>
    refine DL.walk_ofD (l := PySem.Challenge.rw_pagesonce_k00_errors) (n := 63) (k := 4) (x := "script") (CX := fun w => L2N.CX (PySem.Challenge.rw_pagesonce_k00_errors).prog w) rfl (by decide) (by kernel_rfl) ⟨rfl, by decide, by decide⟩ ?F (fun w H s e s' => DL.cx_no)
    intro w mg fa h Y G hmg0
    obtain ⟨K, KX, c⟩ := Y
    have hmg : mg ("law" : PySem.Str) = some (.ref fa) := by
      have e : (HandSHeadRun.topDef (OpenLaw.row PySem.Challenge.rw_pagesonce_k00_errors).prog 12).name = ("law" : PySem.Str) := by kernel_rfl
      rw [← e]
      exact hmg0
    obtain ⟨fd, hb, hF⟩ := HeadT.facts (P := (PySem.Challenge.rw_pagesonce_k00_errors).prog) (w := w) KX G hmg c
    exact ⟨K, fd, DL.SpP K 1 DL.F_law, KX, hb, fun H a ns hl _ hS => DL.sp_law_of hS (DL.F_law_ok hl), hF⟩
