import PyProof.Rows.All
import Wide.All
import OpenK.AllK
import Wide.FinOn
import HandS.ForMost
import HandS.Exc
import HandS.WordsExc
import HandS.Wide
import HandS.TupAny
import HandS.Star
import HandS.SortInts
import HandS.RaiseMore
import HandS.IsInst
import HandS.Zip
import HandS.EndBits
import HandS.Style
import HandS.Defaults
import HandS.Head2
import HandS.HeadHook4
import HandS.ExcInit
import HandS.TryMany
import HandS.ExcField
import KE.KExcInit
import HandS.TryOnly
import PyProof.ReprRoads
import HandS.HeadEnd
import PySem.Challenge.RW_relaidrows_k04_forms_that_reach
set_option Elab.async false
set_option linter.all false
set_option maxRecDepth 100000
set_option maxHeartbeats 0
namespace Sh
open PySem PySem.Spec PyProof.Rows L2

inductive W where
  | non | bl (b : Bool) | int (i : Int) | str (x : Str) | tup (l : List W) | lst (l : List W) | ro (l : List W)
  | ins (c : Nat) (ns : List Str) (l : List W) | cls (c : Nat) | ty (n : String) | opq (k : Nat)
structure Exn where
  c : Nat
  ns : List Str
  l : List W
inductive Sl where
  | no | v (w : W) | acc (l : List W) | obj (c : Nat) (ns : List Str) (l : List W) | xcp (e : Exn)

structure M (α : Type) where
  run : (α → Prop) → (Exn → Prop) → Prop
  mono : ∀ {Q Q' : α → Prop} {E E' : Exn → Prop}, (∀ a, Q a → Q' a) → (∀ e, E e → E' e) → run Q E → run Q' E'
def M.pure {α : Type} (a : α) : M α := ⟨fun Q _ => Q a, fun h _ q => h a q⟩
def M.bad {α : Type} : M α := ⟨fun _ _ => False, fun _ _ q => q⟩
def M.throw {α : Type} (e : Exn) : M α := ⟨fun _ E => E e, fun _ h q => h e q⟩
def M.bind {α β : Type} (m : M α) (f : α → M β) : M β :=
  ⟨fun Q E => m.run (fun a => (f a).run Q E) E, fun h1 h2 q => m.mono (fun a => (f a).mono h1 h2) h2 q⟩
def M.catch_ {α : Type} (m : M α) (f : Exn → M α) : M α :=
  ⟨fun Q E => m.run Q (fun e => (f e).run Q E), fun h1 h2 q => m.mono h1 (fun e => (f e).mono h1 h2) q⟩
def M.ofO {α : Type} : Option α → M α
  | some a => M.pure a
  | none => M.bad
def M.draw (n : Int) : M Int := ⟨fun Q _ => ∀ r, 0 ≤ r → r < n → Q r, fun h _ q r h0 h1 => h r (q r h0 h1)⟩
instance : Monad M where
  pure := M.pure
  bind := M.bind
theorem M.ext {α : Type} {m m' : M α} (h : ∀ Q E, m.run Q E = m'.run Q E) : m = m' := by
  obtain ⟨r, p⟩ := m
  obtain ⟨r', p'⟩ := m'
  have e : r = r' := funext fun Q => funext fun E => h Q E
  subst e
  rfl
@[simp] theorem bind_run {α β : Type} (m : M α) (f : α → M β) (Q E) : (m >>= f).run Q E = m.run (fun a => (f a).run Q E) E := rfl
@[simp] theorem Mbind_run {α β : Type} (m : M α) (f : α → M β) (Q E) : (M.bind m f).run Q E = m.run (fun a => (f a).run Q E) E := rfl
@[simp] theorem pure_run {α : Type} (a : α) (Q E) : (Pure.pure a : M α).run Q E = Q a := rfl
@[simp] theorem Mpure_run {α : Type} (a : α) (Q E) : (M.pure a).run Q E = Q a := rfl
@[simp] theorem throw_run {α : Type} (e : Exn) (Q E) : (M.throw e : M α).run Q E = E e := rfl
@[simp] theorem bad_run {α : Type} (Q E) : (M.bad : M α).run Q E = False := rfl
@[simp] theorem pure_bind' {α β : Type} (a : α) (f : α → M β) : (Pure.pure a >>= f) = f a := rfl
@[simp] theorem Mpure_bind {α β : Type} (a : α) (f : α → M β) : (M.pure a >>= f) = f a := rfl
@[simp] theorem Mpure_bind' {α β : Type} (a : α) (f : α → M β) : (M.bind (M.pure a) f) = f a := rfl
@[simp] theorem throw_bind {α β : Type} (e : Exn) (f : α → M β) : ((M.throw e : M α) >>= f) = M.throw e := rfl
@[simp] theorem bad_bind {α β : Type} (f : α → M β) : ((M.bad : M α) >>= f) = M.bad := rfl
theorem bind_assoc' {α β γ : Type} (m : M α) (f : α → M β) (g : β → M γ) : ((m >>= f) >>= g) = (m >>= fun a => f a >>= g) := rfl

structure Gd where
  H0 : Hp
  Av0 : Addr → Prop
  oa : Nat → Option Addr
  dl : Option (Addr × Addr)
  tmp : List Addr
  self : Option (Addr × Nat × Addr)
def Gd.Av (G : Gd) (a : Addr) : Prop := (G.Av0 a ∨ a ∈ G.tmp) ∨ ∃ i, G.oa i = some a
def TupAt (K : PySem.W.Frag) (Av : Addr → Prop) (H : Hp) (a : Addr) (vs : List V) : Prop := (H a = some (.tup vs) ∧ ¬ Av a) ∨ ∀ H', SqT K H' a vs
def RoAt (K : PySem.W.Frag) (Av : Addr → Prop) (H : Hp) (a : Addr) (vs : List V) : Prop := (Rd H a (.lst vs) ∧ ¬ Av a) ∨ ∀ H', SqL K H' a vs
def LstAt (Av : Addr → Prop) (H : Hp) (a : Addr) (vs : List V) : Prop := H a = some (.lst vs) ∧ ¬ Av a
section
variable (K : PySem.W.Frag) (cl : Nat → Addr)
mutual
inductive Rep (Av : Addr → Prop) (dl : Option (Addr × Addr)) (H : Hp) : W → V → Prop
  | non : Rep Av dl H .non .non
  | bl {b} : Rep Av dl H (.bl b) (.bl b)
  | int {i} : Rep Av dl H (.int i) (.int i)
  | str {x} : Rep Av dl H (.str x) (.str x)
  | cls {c} : Rep Av dl H (.cls c) (.ref (cl c))
  | ty {n} : Rep Av dl H (.ty n) (.ty n)
  | opq {d g} : dl = some (d, g) → Rep Av dl H (.opq 0) (.ref d)
  | tup {ws a vs} : TupAt K Av H a vs → vs.length ≤ sizeLine → Reps Av dl H ws vs → Rep Av dl H (.tup ws) (.ref a)
  | lst {ws a vs} : LstAt Av H a vs → vs.length ≤ sizeLine → Reps Av dl H ws vs → Rep Av dl H (.lst ws) (.ref a)
  | ro {ws a vs} : RoAt K Av H a vs → vs.length ≤ sizeLine → Reps Av dl H ws vs → Rep Av dl H (.ro ws) (.ref a)
  | ins {c ns ws a dx fs} : H a = some (.ins (cl c) dx fs) → ¬ Av a → fs.map (·.1) = ns → Reps Av dl H ws (fs.map (·.2)) → Rep Av dl H (.ins c ns ws) (.ref a)
inductive Reps (Av : Addr → Prop) (dl : Option (Addr × Addr)) (H : Hp) : List W → List V → Prop
  | nil : Reps Av dl H [] []
  | cons {w v ws vs} : Rep Av dl H w v → Reps Av dl H ws vs → Reps Av dl H (w :: ws) (v :: vs)
end
end
section
variable {K : PySem.W.Frag} {cl : Nat → Addr} {Av Av' : Addr → Prop} {dl : Option (Addr × Addr)} {H H' : Hp}
theorem Rd.keep {a : Addr} {u : HO} (k : ∀ o, H a = some o → H' a = some o) (h : Rd H a u) : Rd H' a u := by
  rcases h with h | ⟨o, h⟩
  · exact .inl (k _ h)
  · exact .inr ⟨o, k _ h⟩
theorem Rd.there {a : Addr} {u : HO} (h : Rd H a u) : ∃ o, H a = .some o := by
  rcases h with h | ⟨o, h⟩
  · exact ⟨_, h⟩
  · exact ⟨_, h⟩
theorem TupAt.sq {a : Addr} {vs : List V} (h : TupAt K Av H a vs) : SqT K H a vs := h.elim (fun q => .inl (.inl q.1)) fun q => q H
theorem LstAt.sq {a : Addr} {vs : List V} (h : LstAt Av H a vs) : SqL K H a vs := .inl (.inl h.1)
structure Kp (Av Av' : Addr → Prop) (H H' : Hp) : Prop where
  k : ∀ a o, ¬ Av a → H a = some o → H' a = some o
  av : ∀ a o, Av' a → H a = some o → Av a
theorem TupAt.keep {a : Addr} {vs : List V} (k : Kp Av Av' H H') (h : TupAt K Av H a vs) : TupAt K Av' H' a vs := by
  rcases h with ⟨h, n⟩ | h
  · exact .inl ⟨k.k _ _ n h, fun z => n (k.av a _ z h)⟩
  · exact .inr h
theorem LstAt.keep {a : Addr} {vs : List V} (k : Kp Av Av' H H') (h : LstAt Av H a vs) : LstAt Av' H' a vs := ⟨k.k _ _ h.2 h.1, fun z => h.2 (k.av a _ z h.1)⟩
theorem RoAt.sq {a : Addr} {vs : List V} (h : RoAt K Av H a vs) : SqL K H a vs := h.elim (fun q => .inl q.1) fun q => q H
theorem RoAt.keep {a : Addr} {vs : List V} (k : Kp Av Av' H H') (h : RoAt K Av H a vs) : RoAt K Av' H' a vs := by
  rcases h with ⟨h, n⟩ | h
  · obtain ⟨o, q⟩ := Rd.there h
    exact .inl ⟨Rd.keep (fun o => k.k _ o n) h, fun z => n (k.av a o z q)⟩
  · exact .inr h
mutual
theorem Rep.keep {w : W} {v : V} (k : Kp Av Av' H H') : Rep K cl Av dl H w v → Rep K cl Av' dl H' w v
  | .non => .non
  | .bl => .bl
  | .int => .int
  | .str => .str
  | .cls => .cls
  | .ty => .ty
  | .opq e => .opq e
  | .tup h z r => .tup (h.keep k) z (Reps.keep k r)
  | .lst h z r => .lst (h.keep k) z (Reps.keep k r)
  | .ro h z r => .ro (h.keep k) z (Reps.keep k r)
  | .ins h n e r => .ins (k.k _ _ n h) (fun q => n (k.av _ _ q h)) e (Reps.keep k r)
theorem Reps.keep {ws : List W} {vs : List V} (k : Kp Av Av' H H') : Reps K cl Av dl H ws vs → Reps K cl Av' dl H' ws vs
  | .nil => .nil
  | .cons r t => .cons (Rep.keep k r) (Reps.keep k t)
end
theorem Reps.length {ws : List W} {vs : List V} : Reps K cl Av dl H ws vs → ws.length = vs.length
  | .nil => rfl
  | .cons _ t => congrArg (· + 1) t.length
theorem Reps.get {ws : List W} {vs : List V} : ∀ {i : Nat} {w : W}, Reps K cl Av dl H ws vs → ws[i]? = some w → ∃ v, vs[i]? = some v ∧ Rep K cl Av dl H w v
  | _, _, .nil, e => by simp at e
  | 0, _, .cons r _, e => by simp at e; subst e; exact ⟨_, rfl, r⟩
  | i + 1, w, .cons _ t, e => by
    obtain ⟨v, h1, h2⟩ := Reps.get (i := i) (w := w) t (by simpa using e)
    exact ⟨v, by simpa using h1, h2⟩
theorem Reps.getV {ws : List W} {vs : List V} : ∀ {i : Nat} {v : V}, Reps K cl Av dl H ws vs → vs[i]? = some v → ∃ w, ws[i]? = some w ∧ Rep K cl Av dl H w v
  | _, _, .nil, e => by simp at e
  | 0, _, .cons r _, e => by simp at e; subst e; exact ⟨_, rfl, r⟩
  | i + 1, v, .cons _ t, e => by
    obtain ⟨w, h1, h2⟩ := Reps.getV (i := i) (v := v) t (by simpa using e)
    exact ⟨w, by simpa using h1, h2⟩
theorem Reps.append {ws ws' : List W} {vs vs' : List V} : Reps K cl Av dl H ws vs → Reps K cl Av dl H ws' vs' → Reps K cl Av dl H (ws ++ ws') (vs ++ vs')
  | .nil, q => q
  | .cons r t, q => .cons r (t.append q)
theorem Reps.take {ws : List W} {vs : List V} : ∀ (n : Nat), Reps K cl Av dl H ws vs → Reps K cl Av dl H (ws.take n) (vs.take n)
  | 0, _ => .nil
  | _ + 1, .nil => .nil
  | n + 1, .cons r t => .cons r (t.take n)
theorem Reps.drop {ws : List W} {vs : List V} : ∀ (n : Nat), Reps K cl Av dl H ws vs → Reps K cl Av dl H (ws.drop n) (vs.drop n)
  | 0, r => r
  | _ + 1, .nil => .nil
  | n + 1, .cons _ t => t.drop n
theorem Reps.set {w : W} {v : V} (r : Rep K cl Av dl H w v) : ∀ {ws : List W} {vs : List V} (i : Nat), Reps K cl Av dl H ws vs → Reps K cl Av dl H (ws.set i w) (vs.set i v)
  | _, _, _, .nil => .nil
  | _, _, 0, .cons _ t => .cons r t
  | _, _, i + 1, .cons q t => .cons q (Reps.set r i t)
theorem Reps.reverse {ws : List W} {vs : List V} : Reps K cl Av dl H ws vs → Reps K cl Av dl H ws.reverse vs.reverse
  | .nil => .nil
  | .cons r t => by
    rw [List.reverse_cons, List.reverse_cons]
    exact (t.reverse).append (.cons r .nil)
end
structure Cl where
  f : Nat → Addr
  xc : Option (Addr × Value × Option Addr)
instance : CoeFun Cl fun _ => Nat → Addr := ⟨Cl.f⟩
instance : Coe Cl (Nat → Addr) := ⟨Cl.f⟩
def isDl (dl : Option (Addr × Addr)) (a : Addr) : Prop := ∃ p, dl = some p ∧ (a = p.1 ∨ a = p.2)
def dealInv (dl : Option (Addr × Addr)) (H : Hp) : Prop := ∀ d g, dl = some (d, g) → g ≠ d ∧ ∃ (gs : List Int) (m : Int), H d = some (.lst [.ref g, .int m]) ∧ H g = some (.lst (gs.map V.int)) ∧ (∀ x ∈ gs, 0 ≤ x ∧ x < 2 ^ 1100000) ∧ gs.length ≤ 64 ∧ 0 ≤ m ∧ m < 2147483647
def Keep (dl : Option (Addr × Addr)) (H H' : Hp) : Prop := ∀ a o, H a = some o → ¬ isDl dl a → H' a = some o
theorem Keep.refl {dl : Option (Addr × Addr)} {H : Hp} : Keep dl H H := fun _ _ e _ => e
theorem Keep.trans {dl : Option (Addr × Addr)} {H H1 H2 : Hp} (a : Keep dl H H1) (b : Keep dl H1 H2) : Keep dl H H2 := fun x o e n => b x o (a x o e n) n
theorem Keep.of {dl : Option (Addr × Addr)} {H H' : Hp} (k : ∀ a o, H a = some o → H' a = some o) : Keep dl H H' := fun a o e _ => k a o e
section
variable (K : PySem.W.Frag) (cl : Cl)
def ownS : Option Sl → Bool
  | some (.acc _) => true
  | some (.obj _ _ _) => true
  | _ => false
def XRep (Av : Addr → Prop) (dl : Option (Addr × Addr)) (H : Hp) (e : Exn) (c : Value) (d : Option Addr) : Prop :=
  c = .ref (cl e.c) ∧ ((e.ns = [] ∧ e.l = [] ∧ d = none) ∨ ∃ a fs, d = some a ∧ H a = some (.xd fs) ∧ fs.map (·.1) = e.ns ∧ Reps K cl Av dl H e.l (fs.map (·.2)) ∧ ¬ Av a)
def XcpOk (G : Gd) (ρ : List Sl) (σ : L2.St) (H : Hp) : Prop := ∀ (j : Nat) (e : Exn), ρ[j]? = some (.xcp e) → ∃ a c d, cl.xc = some (a, c, d) ∧ σ[j]? = some (some (V.ref a)) ∧ XRep K cl G.Av G.dl H e c d
structure SR (G : Gd) (ρ : List Sl) (σ : L2.St) (H : Hp) : Prop where
  len : σ.length = ρ.length
  v : ∀ (i : Nat) w, ρ[i]? = some (Sl.v w) → ∃ v, σ[i]? = some (some v) ∧ Rep K cl G.Av G.dl H w v
  acc : ∀ (i : Nat) ws, ρ[i]? = some (Sl.acc ws) → ∃ a vs, G.oa i = some a ∧ σ[i]? = some (some (V.ref a)) ∧ H a = some (.lst vs) ∧ Reps K cl G.Av G.dl H ws vs ∧ vs.length ≤ sizeLine
  obj : ∀ (i : Nat) c ns ws, ρ[i]? = some (Sl.obj c ns ws) → ∃ a dx fs, G.self = some (a, c, dx) ∧ G.oa i = some a ∧ σ[i]? = some (some (V.ref a)) ∧ H a = some (.ins (cl c) dx fs) ∧ fs.map (·.1) = ns ∧ Reps K cl G.Av G.dl H ws (fs.map (·.2))
  oaI : ∀ (i : Nat) a, G.oa i = some a → ownS ρ[i]? = true
  inj : ∀ i j a, G.oa i = some a → G.oa j = some a → i = j
  new : ∀ i a, G.oa i = some a → G.H0 a = none
  tmpN : ∀ a, a ∈ G.tmp → G.H0 a = none
  tmpO : ∀ i a, G.oa i = some a → a ∉ G.tmp
  keep : Keep G.dl G.H0 H
  trk : ∀ a, G.Av a → ∃ o, H a = some o
  trk0 : ∀ a, G.Av0 a → ∃ o, G.H0 a = some o
  dlA : ∀ a, isDl G.dl a → G.Av0 a
  deal : dealInv G.dl H
  xcp : XcpOk K cl G ρ σ H
end
section
variable {K : PySem.W.Frag} {cl : Cl} {G G' : Gd} {ρ : List Sl} {σ : L2.St} {H H' : Hp}
theorem XRep.keep {Av Av' : Addr → Prop} {dl : Option (Addr × Addr)} {e : Exn} {c : Value} {d : Option Addr} (k : Kp Av Av' H H') (x : XRep K cl Av dl H e c d) : XRep K cl Av' dl H' e c d := by
  refine ⟨x.1, x.2.imp id fun ⟨a, fs, h1, h2, h3, h4, h5⟩ => ⟨a, fs, h1, k.k _ _ h5 h2, h3, h4.keep k, fun z => h5 (k.av a _ z h2)⟩⟩
theorem XcpOk.same (S : XcpOk K cl G ρ σ H) (kp : Kp G.Av G'.Av H H') (ed : G'.dl = G.dl := by rfl) : XcpOk K cl G' ρ σ H' := fun j e q => by
  obtain ⟨a, c, d, h1, h2, h3⟩ := S j e q
  exact ⟨a, c, d, h1, h2, by rw [ed]; exact h3.keep kp⟩
theorem XcpOk.setR (S : XcpOk K cl G ρ σ H) {i : Nat} {s : Sl} (hs : ∀ e, s ≠ .xcp e := by intro _ q; cases q) : XcpOk K cl G (ρ.set i s) σ H := fun j e q => by
  by_cases hj : i = j
  · subst hj
    by_cases hl : i < ρ.length
    · rw [List.getElem?_set_self hl] at q
      exact (hs e (Option.some.inj q)).elim
    · rw [List.getElem?_eq_none (by simpa using hl)] at q
      cases q
  · rw [List.getElem?_set_ne hj] at q
    exact S j e q
theorem XcpOk.set (S : XcpOk K cl G ρ σ H) {i : Nat} {s : Sl} {o : Option V} (hs : ∀ e, s ≠ .xcp e := by intro _ q; cases q) : XcpOk K cl G (ρ.set i s) (σ.set i o) H := fun j e q => by
  by_cases hj : i = j
  · subst hj
    by_cases hl : i < ρ.length
    · rw [List.getElem?_set_self hl] at q
      exact (hs e (Option.some.inj q)).elim
    · rw [List.getElem?_eq_none (by simpa using hl)] at q
      cases q
  · rw [List.getElem?_set_ne hj] at q ⊢
    exact S j e q
end
section
variable {K : PySem.W.Frag} {cl : Cl} {G : Gd} {ρ : List Sl} {σ : L2.St} {H H' : Hp}
theorem SR.noDl (S : SR K cl G ρ σ H) {i : Nat} {a : Addr} (e : G.oa i = some a) : ¬ isDl G.dl a := fun z => by
  obtain ⟨o, q⟩ := S.trk0 a (S.dlA a z)
  rw [S.new i a e] at q
  cases q
theorem SR.no0 (S : SR K cl G ρ σ H) {i : Nat} {a : Addr} (e : G.oa i = some a) : ¬ G.Av0 a := fun z => by
  obtain ⟨o, q⟩ := S.trk0 a z
  rw [S.new i a e] at q
  cases q
theorem notAv_notDl (S : SR K cl G ρ σ H) {a : Addr} (n : ¬ G.Av a) : ¬ isDl G.dl a := fun z => n (.inl (.inl (S.dlA a z)))
theorem SR.kp (S : SR K cl G ρ σ H) (k : Keep G.dl H H') : Kp G.Av G.Av H H' := ⟨fun a o n e => k a o e (notAv_notDl S n), fun _ _ z _ => z⟩
theorem SR.kept (S : SR K cl G ρ σ H) (k : Keep G.dl H H') (d : dealInv G.dl H') : SR K cl G ρ σ H' where
  len := S.len
  v := fun i w e => let ⟨v, h1, h2⟩ := S.v i w e; ⟨v, h1, h2.keep (S.kp k)⟩
  acc := fun i ws e => let ⟨a, vs, h1, h2, h3, h4, h5⟩ := S.acc i ws e; ⟨a, vs, h1, h2, k _ _ h3 (S.noDl h1), h4.keep (S.kp k), h5⟩
  obj := fun i c ns ws e => let ⟨a, dx, fs, h0, h1, h2, h3, h4, h5⟩ := S.obj i c ns ws e; ⟨a, dx, fs, h0, h1, h2, k _ _ h3 (S.noDl h1), h4, h5.keep (S.kp k)⟩
  oaI := S.oaI
  inj := S.inj
  new := S.new
  tmpN := S.tmpN
  tmpO := S.tmpO
  keep := S.keep.trans k
  trk := fun a h => by
    by_cases z : isDl G.dl a
    · obtain ⟨⟨d', g⟩, e, z⟩ := z
      obtain ⟨_, gs, m, h1, h2, _⟩ := d d' g e
      rcases z with z | z
      · subst z; exact ⟨_, h1⟩
      · subst z; exact ⟨_, h2⟩
    · obtain ⟨o, q⟩ := S.trk a h
      exact ⟨o, k a o q z⟩
  trk0 := S.trk0
  dlA := S.dlA
  deal := d
  xcp := S.xcp.same (S.kp k)
theorem dealInv.grow {dl : Option (Addr × Addr)} (d : dealInv dl H) (k : ∀ a o, H a = some o → H' a = some o) : dealInv dl H' := fun a g e => by
  obtain ⟨n, gs, m, h1, h2, h3⟩ := d a g e
  exact ⟨n, gs, m, k _ _ h1, k _ _ h2, h3⟩
theorem SR.grow (S : SR K cl G ρ σ H) (k : ∀ a o, H a = some o → H' a = some o) : SR K cl G ρ σ H' := S.kept (.of k) (S.deal.grow k)
theorem SR.fresh (S : SR K cl G ρ σ H) {p : Addr} (n : H p = none) : ¬ G.Av p := fun z => by
  obtain ⟨o, q⟩ := S.trk p z
  rw [n] at q
  cases q
theorem upd_grow {p : Addr} {o : HO} (n : H p = none) : ∀ a u, H a = some u → upd H p o a = some u := fun a u e => by
  rw [upd_ne (ne_of_none e n)]
  exact e
end
section
variable {K : PySem.W.Frag} {cl : Cl} {G : Gd} {ρ : List Sl} {σ : L2.St} {H : Hp}
theorem SR.kpNew (S : SR K cl G ρ σ H) {p : Addr} {o : HO} (n : H p = none) : Kp G.Av (fun b => G.Av b ∨ b = p) H (upd H p o) :=
  ⟨fun a u _ e => upd_grow n a u e, fun a u z e => z.elim id fun q => by subst q; rw [n] at e; cases e⟩
theorem Kp.trans {Av Av1 Av2 : Addr → Prop} {H H1 H2 : Hp} (x : Kp Av Av1 H H1) (y : Kp Av1 Av2 H1 H2) : Kp Av Av2 H H2 :=
  ⟨fun a o n e => y.k a o (fun z => n (x.av a o z e)) (x.k a o n e), fun a o z e => Classical.byContradiction fun n => n (x.av a o (y.av a o z (x.k a o n e)) e)⟩
theorem Kp.refl {Av : Addr → Prop} {H : Hp} : Kp Av Av H H := ⟨fun _ _ _ e => e, fun _ _ z _ => z⟩
end
section
variable (K : PySem.W.Frag) (cl : Cl)
def okE (G : Gd) (ρ : List Sl) (σ : L2.St) (H : Hp) (Q : VK) (w : W) : Prop := ∀ v H', SR K cl G ρ σ H' → Keep G.dl H H' → Rep K cl G.Av G.dl H' w v → Q v H'
def exE (G : Gd) (ρ : List Sl) (σ : L2.St) (H : Hp) (Wx : WX) (e : Exn) : Prop := ∀ c d H', SR K cl G ρ σ H' → Keep G.dl H H' → XRep K cl G.Av G.dl H' e c d → Wx c d σ H'
def tI (Wx : WX) (f : List Sl → M W) : TE := fun σ H Q => ∃ G ρ, SR K cl G ρ σ H ∧ (f ρ).run (okE K cl G ρ σ H Q) (exE K cl G ρ σ H Wx)
def okA (G : Gd) (ρ : List Sl) (σ : L2.St) (H : Hp) (Q : List V → Hp → Prop) (ws : List W) : Prop := ∀ vs H', SR K cl G ρ σ H' → Keep G.dl H H' → Reps K cl G.Av G.dl H' ws vs → Q vs H'
def tIA (Wx : WX) (f : List Sl → M (List W)) : TA := fun σ H Q => ∃ G ρ, SR K cl G ρ σ H ∧ (f ρ).run (okA K cl G ρ σ H Q) (exE K cl G ρ σ H Wx)
def okT (G : Gd) (ρ : List Sl) (σ : L2.St) (H : Hp) (Q : Bool → Hp → Prop) (b : Bool) : Prop := ∀ H', SR K cl G ρ σ H' → Keep G.dl H H' → Q b H'
def tIT (Wx : WX) (f : List Sl → M Bool) : TT := fun σ H Q => ∃ G ρ, SR K cl G ρ σ H ∧ (f ρ).run (okT K cl G ρ σ H Q) (exE K cl G ρ σ H Wx)
def RepB (G : Gd) (H : Hp) (w : W) (v : V) : Prop :=
  Rep K cl G.Av G.dl H w v ∨ ∃ ws a vs, w = .lst ws ∧ v = .ref a ∧ H a = some (.lst vs) ∧ Reps K cl G.Av G.dl H ws vs ∧ vs.length ≤ sizeLine ∧ ¬ G.Av0 a
def okB (G : Gd) (ρ : List Sl) (σ : L2.St) (H : Hp) (Q : VK) (w : W) : Prop := ∀ v H', SR K cl G ρ σ H' → Keep G.dl H H' → RepB K cl G H' w v → Q v H'
def tIB (Wx : WX) (f : List Sl → M W) : TE := fun σ H Q => ∃ G ρ, SR K cl G ρ σ H ∧ (f ρ).run (okB K cl G ρ σ H Q) (exE K cl G ρ σ H Wx)
def okF (G : Gd) (ρ : List Sl) (σ : L2.St) (H : Hp) (Q : VK) (ws : List W) : Prop := ∀ a vs H', SR K cl G ρ σ H' → Keep G.dl H H' → H a = none → H' a = some (.lst vs) → ¬ G.Av a → Reps K cl (fun b => G.Av b ∨ b = a) G.dl H' ws vs → vs.length ≤ sizeLine → Q (.ref a) H'
def tIF (Wx : WX) (f : List Sl → M (List W)) : TE := fun σ H Q => ∃ G ρ, SR K cl G ρ σ H ∧ (f ρ).run (okF K cl G ρ σ H Q) (exE K cl G ρ σ H Wx)
end
def PEi (cl : Cl) (Wx : WX) (X : Cx) (e : Expr) (f : List Sl → M W) : Prop := PE X e (tI X.K cl Wx f)
def PTi (cl : Cl) (Wx : WX) (X : Cx) (e : Expr) (f : List Sl → M Bool) : Prop := PT X e (tIT X.K cl Wx f)
def PAi (cl : Cl) (Wx : WX) (X : Cx) (es : List Expr) (f : List Sl → M (List W)) : Prop := PA X es (tIA X.K cl Wx f)
def PEb (cl : Cl) (Wx : WX) (X : Cx) (e : Expr) (f : List Sl → M W) : Prop := PE X e (tIB X.K cl Wx f)
def PEf (cl : Cl) (Wx : WX) (X : Cx) (e : Expr) (f : List Sl → M (List W)) : Prop := PE X e (tIF X.K cl Wx f)
end Sh


namespace Sh
open PySem PySem.Spec PyProof.Rows L2
section
variable {K : PySem.W.Frag} {cl : Cl} {Av : Addr → Prop} {dl : Option (Addr × Addr)} {H : Hp} {v : V}
theorem Rep.int_ {i : Int} (r : Rep K cl Av dl H (.int i) v) : v = .int i := by cases r; rfl
theorem Rep.bl_ {b : Bool} (r : Rep K cl Av dl H (.bl b) v) : v = .bl b := by cases r; rfl
theorem Rep.str_ {x : Str} (r : Rep K cl Av dl H (.str x) v) : v = .str x := by cases r; rfl
theorem Rep.non_ (r : Rep K cl Av dl H .non v) : v = .non := by cases r; rfl
theorem Rep.tup_ {ws : List W} (r : Rep K cl Av dl H (.tup ws) v) : ∃ a vs, v = .ref a ∧ TupAt K Av H a vs ∧ vs.length ≤ sizeLine ∧ Reps K cl Av dl H ws vs := by
  cases r with
  | tup h z r => exact ⟨_, _, rfl, h, z, r⟩
theorem Rep.lst_ {ws : List W} (r : Rep K cl Av dl H (.lst ws) v) : ∃ a vs, v = .ref a ∧ LstAt Av H a vs ∧ vs.length ≤ sizeLine ∧ Reps K cl Av dl H ws vs := by
  cases r with
  | lst h z r => exact ⟨_, _, rfl, h, z, r⟩
theorem Rep.ins_ {c : Nat} {ns : List Str} {ws : List W} (r : Rep K cl Av dl H (.ins c ns ws) v) : ∃ a dx fs, v = .ref a ∧ H a = some (.ins (cl c) dx fs) ∧ ¬ Av a ∧ fs.map (·.1) = ns ∧ Reps K cl Av dl H ws (fs.map (·.2)) := by
  cases r with
  | ins h n e r => exact ⟨_, _, _, rfl, h, n, e, r⟩
theorem Rep.ro_ {ws : List W} (r : Rep K cl Av dl H (.ro ws) v) : ∃ a vs, v = .ref a ∧ RoAt K Av H a vs ∧ vs.length ≤ sizeLine ∧ Reps K cl Av dl H ws vs := by
  cases r with
  | ro h z r => exact ⟨_, _, rfl, h, z, r⟩
theorem Rep.b {G : Gd} {w : W} (r : Rep K cl G.Av G.dl H w v) : RepB K cl G H w v := .inl r
theorem RepB.int_ {G : Gd} {i : Int} (r : RepB K cl G H (.int i) v) : v = .int i := by
  rcases r with r | ⟨_, _, _, e, _⟩
  · exact r.int_
  · cases e
theorem RepB.bl_ {G : Gd} {b : Bool} (r : RepB K cl G H (.bl b) v) : v = .bl b := by
  rcases r with r | ⟨_, _, _, e, _⟩
  · exact r.bl_
  · cases e
theorem RepB.str_ {G : Gd} {x : Str} (r : RepB K cl G H (.str x) v) : v = .str x := by
  rcases r with r | ⟨_, _, _, e, _⟩
  · exact r.str_
  · cases e
theorem RepB.non_ {G : Gd} (r : RepB K cl G H .non v) : v = .non := by
  rcases r with r | ⟨_, _, _, e, _⟩
  · exact r.non_
  · cases e
theorem RepB.tup_ {G : Gd} {ws : List W} (r : RepB K cl G H (.tup ws) v) : ∃ a vs, v = .ref a ∧ TupAt K G.Av H a vs ∧ vs.length ≤ sizeLine ∧ Reps K cl G.Av G.dl H ws vs := by
  rcases r with r | ⟨_, _, _, e, _⟩
  · exact r.tup_
  · cases e
theorem RepB.ins_ {G : Gd} {c : Nat} {ns : List Str} {ws : List W} (r : RepB K cl G H (.ins c ns ws) v) : Rep K cl G.Av G.dl H (.ins c ns ws) v := by
  rcases r with r | ⟨_, _, _, e, _⟩
  · exact r
  · cases e
theorem RepB.lst_ {G : Gd} {ws : List W} (r : RepB K cl G H (.lst ws) v) : ∃ a vs, v = .ref a ∧ H a = some (.lst vs) ∧ vs.length ≤ sizeLine ∧ Reps K cl G.Av G.dl H ws vs := by
  rcases r with r | ⟨_, _, _, e, rfl, h, r, z, _⟩
  · obtain ⟨a, vs, rfl, h, z, r⟩ := r.lst_
    exact ⟨a, vs, rfl, h.1, z, r⟩
  · cases e
    exact ⟨_, _, rfl, h, z, r⟩
theorem RepB.ro_ {G : Gd} {ws : List W} (r : RepB K cl G H (.ro ws) v) : ∃ a vs, v = .ref a ∧ RoAt K G.Av H a vs ∧ vs.length ≤ sizeLine ∧ Reps K cl G.Av G.dl H ws vs := by
  rcases r with r | ⟨_, _, _, e, _⟩
  · exact r.ro_
  · cases e
theorem RepB.keep {G : Gd} {ρ : List Sl} {σ : L2.St} {H' : Hp} {w : W} (S : SR K cl G ρ σ H) (k : Keep G.dl H H') (r : RepB K cl G H w v) : RepB K cl G H' w v := by
  rcases r with r | ⟨ws, a, vs, e, e', h, r, z, n⟩
  · exact .inl (r.keep (S.kp k))
  · exact .inr ⟨ws, a, vs, e, e', k a _ h (fun y => n (S.dlA a y)), r.keep (S.kp k), z, n⟩
end
section
variable {X : Cx} {cl : Cl} {Wx : WX} {a b c : Expr} {fa fb fc : List Sl → M W} {pos : Pos}
theorem PEi.toB (h : PEi cl Wx X a fa) : PEb cl Wx X a fa := ⟨fun pins s σ H Q I ⟨G, ρ, S, q⟩ => PE.run h pins s σ H Q I ⟨G, ρ, S, (fa ρ).mono (fun w q v H' S' k r => q v H' S' k r.b) (fun _ z => z) q⟩⟩
theorem PEf.toI {fa : List Sl → M (List W)} (h : PEf cl Wx X a fa) : PEi cl Wx X a (fun ρ => fa ρ >>= fun l => pure (.lst l)) := ⟨fun pins s σ H Q I ⟨G, ρ, S, q⟩ => PE.run h pins s σ H Q I
  ⟨G, ρ, S, (fa ρ).mono (fun ws q a vs H' S' k n e na r z => q (.ref a) H' S' k (.lst ⟨e, na⟩ z (r.keep ⟨fun _ _ _ e => e, fun _ _ z _ => .inl z⟩))) (fun _ z => z) q⟩⟩
theorem PEf.toB {fa : List Sl → M (List W)} (h : PEf cl Wx X a fa) : PEb cl Wx X a (fun ρ => fa ρ >>= fun l => pure (.lst l)) := PEi.toB (PEf.toI h)
def gv (i : Nat) (ρ : List Sl) : M W := match ρ[i]? with
  | some (.v w) => pure w
  | _ => M.bad
def gb (i : Nat) (ρ : List Sl) : M W := match ρ[i]? with
  | some (.v w) => pure w
  | some (.acc ws) => pure (.lst ws)
  | _ => M.bad
theorem gv_run {i : Nat} {ρ : List Sl} {Q E} (h : (gv i ρ).run Q E) : ∃ w, ρ[i]? = some (.v w) ∧ Q w := by
  unfold gv at h
  split at h
  · rename_i w e; exact ⟨w, e, h⟩
  · exact h.elim
theorem gb_run {i : Nat} {ρ : List Sl} {Q E} (h : (gb i ρ).run Q E) : (∃ w, ρ[i]? = some (.v w) ∧ Q w) ∨ ∃ ws, ρ[i]? = some (.acc ws) ∧ Q (.lst ws) := by
  unfold gb at h
  split at h
  · rename_i w e; exact .inl ⟨w, e, h⟩
  · rename_i w e; exact .inr ⟨w, e, h⟩
  · exact h.elim
theorem pi_of {i : Nat} (h : PE X a (tVar i)) : PEi cl Wx X a (gv i) := ⟨fun pins s σ H Q I ⟨G, ρ, S, q⟩ => PE.run h pins s σ H Q I (by
  obtain ⟨w, e, q⟩ := gv_run q
  obtain ⟨v, h1, h2⟩ := S.v i w e
  exact ⟨v, h1, q v H S .refl h2⟩)⟩
theorem pb_of {i : Nat} (h : PE X a (tVar i)) : PEb cl Wx X a (gb i) := ⟨fun pins s σ H Q I ⟨G, ρ, S, q⟩ => PE.run h pins s σ H Q I (by
  rcases gb_run q with ⟨w, e, q⟩ | ⟨ws, e, q⟩
  · obtain ⟨v, h1, h2⟩ := S.v i w e
    exact ⟨v, h1, q v H S .refl h2.b⟩
  · obtain ⟨a, vs, h1, h2, h3, h4, h5⟩ := S.acc i ws e
    exact ⟨_, h2, q _ H S .refl (.inr ⟨ws, a, vs, rfl, rfl, h3, h4, h5, S.no0 h1⟩)⟩)⟩
theorem pi_v (i : Nat) {x : Str} {pos : Pos} (hN : X.N[i]? = some x := by rfl) (hv : Vis X.env.scope x := by first | exact Or.inl rfl | exact Or.inr (Or.inl rfl) | exact Or.inr (Or.inr rfl)) (hd : (x == ("__debug__" : Str)) = false := by decide)
    (hcd : (x == ("__classdict__" : Str)) = false := by decide) : PEi cl Wx X (.Name x pos) (gv i) := pi_of (pe_var hN hv hd hcd)
theorem pb_v (i : Nat) {x : Str} {pos : Pos} (hN : X.N[i]? = some x := by rfl) (hv : Vis X.env.scope x := by first | exact Or.inl rfl | exact Or.inr (Or.inl rfl) | exact Or.inr (Or.inr rfl)) (hd : (x == ("__debug__" : Str)) = false := by decide)
    (hcd : (x == ("__classdict__" : Str)) = false := by decide) : PEb cl Wx X (.Name x pos) (gb i) := pb_of (pe_var hN hv hd hcd)
def cw (w : W) (_ : List Sl) : M W := pure w
theorem pi_c {v : V} {w : W} (h : PE X a (tC v)) (r : ∀ Av dl H, Rep X.K cl Av dl H w v) : PEi cl Wx X a (cw w) := ⟨fun pins s σ H Q I ⟨G, ρ, S, q⟩ => PE.run h pins s σ H Q I (q v H S .refl (r _ _ _))⟩
theorem pi_int {i j pos} : PEi cl Wx X (.Constant (.int i) j pos) (cw (.int i)) := pi_c pe_int fun _ _ _ => .int
theorem pi_bl {i j pos} : PEi cl Wx X (.Constant (.bool i) j pos) (cw (.bl i)) := pi_c pe_bl fun _ _ _ => .bl
theorem pi_non {j pos} : PEi cl Wx X (.Constant .none j pos) (cw .non) := pi_c pe_non fun _ _ _ => .non
theorem pi_str {i j pos} : PEi cl Wx X (.Constant (.str i) j pos) (cw (.str i)) := pi_c pe_str fun _ _ _ => .str
def OpW (cl : Cl) (X : Cx) (f : Value → Value → Sem Value) (g : W → W → Option W) : Prop :=
  ∃ r : R2, OpR X f r ∧ ∀ {G ρ σ H wx wy x y w Q}, SR X.K cl G ρ σ H → RepB X.K cl G H wx x → RepB X.K cl G H wy y → g wx wy = some w → okE X.K cl G ρ σ H Q w → r x y H Q
theorem OpW.or {f : Value → Value → Sem Value} {g g' : W → W → Option W} (h : OpW cl X f g) (h' : OpW cl X f g') : OpW cl X f (fun x y => (g x y).or (g' x y)) := by
  obtain ⟨r, h1, h2⟩ := h
  obtain ⟨r', h1', h2'⟩ := h'
  refine ⟨fun x y H Q => r x y H Q ∨ r' x y H Q, fun pins s σ H x y v u Q I rx ry q => q.elim (h1 pins s σ H x y v u Q I rx ry) (h1' pins s σ H x y v u Q I rx ry), fun S rx ry e q => ?_⟩
  revert e
  rename_i wx wy _ _ _ _
  cases e1 : g wx wy with
  | some z => intro e; replace e : (g wx wy).or (g' wx wy) = some _ := e; rw [e1, Option.some_or] at e; exact .inl (h2 S rx ry (e1.trans e) q)
  | none => intro e; replace e : (g wx wy).or (g' wx wy) = some _ := e; rw [e1, Option.none_or] at e; exact .inr (h2' S rx ry e q)
def bin (g : W → W → Option W) (fa fb : List Sl → M W) (ρ : List Sl) : M W := fa ρ >>= fun x => fb ρ >>= fun y => M.ofO (g x y)
theorem ofO_run {α : Type} {o : Option α} {Q E} (h : (M.ofO o).run Q E) : ∃ a, o = some a ∧ Q a := by
  cases o with
  | none => exact h.elim
  | some a => exact ⟨a, rfl, h⟩
theorem exE_of {K : PySem.W.Frag} {G : Gd} {ρ : List Sl} {σ : L2.St} {H H1 : Hp} {e : Exn} (k : Keep G.dl H H1) (q : exE K cl G ρ σ H Wx e) : exE K cl G ρ σ H1 Wx e := fun c d H' S' k' x => q c d H' S' (k.trans k') x
theorem two_run {R : V → V → Hp → Prop} {K : PySem.W.Frag} {G : Gd} {ρ : List Sl} {σ : L2.St} {H : Hp} {m : W → W → M W} {Q : VK} (S : SR K cl G ρ σ H) (q : (fa ρ >>= fun x => fb ρ >>= fun y => m x y).run (okE K cl G ρ σ H Q) (exE K cl G ρ σ H Wx))
    (h : ∀ wx wy x y H', SR K cl G ρ σ H' → Keep G.dl H H' → RepB K cl G H' wx x → RepB K cl G H' wy y → (m wx wy).run (okE K cl G ρ σ H' Q) (exE K cl G ρ σ H' Wx) → R x y H') :
    tIB K cl Wx fa σ H fun x H1 => tIB K cl Wx fb σ H1 fun y H2 => R x y H2 := by
  refine ⟨G, ρ, S, (fa ρ).mono (fun wx q => ?_) (fun e q => q) q⟩
  intro x H1 S1 k1 r1
  refine ⟨G, ρ, S1, (fb ρ).mono (fun wy q => ?_) (fun e q => exE_of k1 q) q⟩
  intro y H2 S2 k2 r2
  refine h wx wy x y H2 S2 (k1.trans k2) (r1.keep S1 k2) r2 ((m wx wy).mono (fun w q => ?_) (fun e q => exE_of (k1.trans k2) q) q)
  intro v H3 S3 k3 r3
  exact q v H3 S3 ((k1.trans k2).trans k3) r3
theorem pi_op {op : Operator} {g : W → W → Option W} (ho : OpW cl X (binaryOp op) g) (ha : PEb cl Wx X a fa) (hb : PEb cl Wx X b fb) : PEi cl Wx X (.BinOp a op b pos) (bin g fa fb) := by
  obtain ⟨r, h1, h2⟩ := ho
  refine ⟨fun pins s σ H Q I ⟨G, ρ, S, q⟩ => (pe_op h1 ha hb).run pins s σ H Q I (two_run S q fun wx wy x y H' S' k rx ry q => ?_)⟩
  obtain ⟨w, e, q⟩ := ofO_run q
  exact h2 S' rx ry e q
theorem pi_cmp {op : CmpOp} {g : W → W → Option W} (ho : OpW cl X (compareOp op) g) (ha : PEb cl Wx X a fa) (hb : PEb cl Wx X b fb) (hm : behindInMarks op b = false) : PEi cl Wx X (.Compare a [op] [b] pos) (bin g fa fb) := by
  obtain ⟨r, h1, h2⟩ := ho
  refine ⟨fun pins s σ H Q I ⟨G, ρ, S, q⟩ => (pe_cmpR h1 ha hb hm).run pins s σ H Q I (two_run S q fun wx wy x y H' S' k rx ry q => ?_)⟩
  obtain ⟨w, e, q⟩ := ofO_run q
  exact h2 S' rx ry e q
def asB : W → Option Bool
  | .bl b => some b
  | _ => none
def tst (f : List Sl → M W) (ρ : List Sl) : M Bool := f ρ >>= fun w => M.ofO (asB w)
theorem asB_some {w : W} {b : Bool} (h : asB w = some b) : w = .bl b := by
  cases w with
  | bl c => cases h; rfl
  | _ => cases h
theorem pt_i (h : PEi cl Wx X a fa) (he : ∀ whole, isTrue a X.env whole = (do let v ← whole; standAt a.pos; holding [v] (truthy v)) := by intro _; rfl) : PTi cl Wx X a (tst fa) := by
  refine ⟨fun pins s σ H Q I ⟨G, ρ, S, q⟩ => (pt_val h he).run pins s σ H Q I ⟨G, ρ, S, (fa ρ).mono (fun w q v H' S' k r => ?_) (fun _ z => z) q⟩⟩
  obtain ⟨b, e, q⟩ := ofO_run q
  cases asB_some e
  cases r.bl_
  exact ⟨b, rfl, q H' S' k⟩
theorem pt_cmpi {op : CmpOp} {g : W → W → Option W} (ho : OpW cl X (compareOp op) g) (ha : PEb cl Wx X a fa) (hb : PEb cl Wx X b fb) (hm : behindInMarks op b = false) : PTi cl Wx X (.Compare a [op] [b] pos) (tst (bin g fa fb)) := by
  obtain ⟨r, h1, h2⟩ := ho
  refine ⟨fun pins s σ H Q I ⟨G, ρ, S, q⟩ => (pt_cmpR h1 ha hb hm).run pins s σ H Q I ?_⟩
  have q' : (fa ρ >>= fun x => fb ρ >>= fun y => M.ofO (g x y)).run (okE X.K cl G ρ σ H fun v H' => ∃ k, v = .bl k ∧ Q k H') (exE X.K cl G ρ σ H Wx) := (bin g fa fb ρ).mono (fun w q v H' S' k r => by
    obtain ⟨b, e, q⟩ := ofO_run q
    cases asB_some e
    cases r.bl_
    exact ⟨b, rfl, q H' S' k⟩) (fun _ z => z) q
  refine two_run S q' fun wx wy x y H' S' k rx ry q => ?_
  obtain ⟨w, e, q⟩ := ofO_run q
  exact h2 S' rx ry e q
def truW : W → Option Bool
  | .non => some false
  | .bl b => some b
  | .int i => some (i != 0)
  | .str y => if y.length ≤ sizeLine then some ((y.length : Int) != 0) else none
  | .lst l => some (!l.isEmpty)
  | .tup l => some (!l.isEmpty)
  | _ => none
def tru (f : List Sl → M W) (ρ : List Sl) : M Bool := f ρ >>= fun w => M.ofO (truW w)
theorem isEmpty_eq {K : PySem.W.Frag} {Av : Addr → Prop} {dl : Option (Addr × Addr)} {H : Hp} {ws : List W} {vs : List V} (r : Reps K cl Av dl H ws vs) : ws.isEmpty = vs.isEmpty := by cases r <;> rfl
theorem truW_ok {K : PySem.W.Frag} {G : Gd} {H : Hp} {w : W} {v : V} {b : Bool} (r : RepB K cl G H w v) (e : truW w = some b) : TruV K v H b := by
  cases w with
  | non => cases r.non_; cases e; rfl
  | bl c => cases r.bl_; cases e; rfl
  | int i => cases r.int_; cases e; rfl
  | str y =>
    cases r.str_
    by_cases h : y.length ≤ sizeLine
    · simp only [truW, if_pos h] at e
      cases e
      exact ⟨h, rfl⟩
    · simp only [truW, if_neg h] at e
      cases e
  | lst l =>
    obtain ⟨a, vs, rfl, h, z, r⟩ := r.lst_
    cases e
    exact .inl ⟨vs, .inl (.inl h), by rw [isEmpty_eq r]⟩
  | tup l =>
    obtain ⟨a, vs, rfl, h, z, r⟩ := r.tup_
    cases e
    exact .inr (.inl ⟨vs, h.sq, by rw [isEmpty_eq r]⟩)
  | ins _ _ _ => cases e
  | ro _ => cases e
  | cls _ => cases e
  | ty _ => cases e
  | opq _ => cases e
theorem pt_tru (h : PEb cl Wx X a fa) (he : ∀ whole, isTrue a X.env whole = (do let v ← whole; standAt a.pos; holding [v] (truthy v)) := by intro _; rfl) : PTi cl Wx X a (tru fa) := by
  refine ⟨fun pins s σ H Q I ⟨G, ρ, S, q⟩ => (pt_truth h he).run pins s σ H Q I ⟨G, ρ, S, (fa ρ).mono (fun w q v H' S' k r => ?_) (fun _ z => z) q⟩⟩
  obtain ⟨b, e, q⟩ := ofO_run q
  exact ⟨b, truW_ok r e, q H' S' k⟩
variable {ga gb' : List Sl → M Bool} {rest : List Expr}
def andT (f g : List Sl → M Bool) (ρ : List Sl) : M Bool := f ρ >>= fun c => if c = true then g ρ else pure false
def orT (f g : List Sl → M Bool) (ρ : List Sl) : M Bool := f ρ >>= fun c => if c = true then pure true else g ρ
def notT (f : List Sl → M Bool) (ρ : List Sl) : M Bool := f ρ >>= fun c => pure (!c)
def PWi (cl : Cl) (Wx : WX) (X : Cx) (e : Expr) (f : List Sl → M Bool) : Prop := PW X e (tIT X.K cl Wx f)
theorem PWi.pt {f : List Sl → M Bool} (h : PWi cl Wx X a f) : PTi cl Wx X a f := PW.pt h
theorem okT_of {K : PySem.W.Frag} {G : Gd} {ρ : List Sl} {σ : L2.St} {H H1 : Hp} {Q : Bool → Hp → Prop} {b : Bool} (k : Keep G.dl H H1) (q : okT K cl G ρ σ H Q b) : okT K cl G ρ σ H1 Q b := fun H' S' k' => q H' S' (k.trans k')
theorem okE_of {K : PySem.W.Frag} {G : Gd} {ρ : List Sl} {σ : L2.St} {H H1 : Hp} {Q : VK} {b : W} (k : Keep G.dl H H1) (q : okE K cl G ρ σ H Q b) : okE K cl G ρ σ H1 Q b := fun v H' S' k' r => q v H' S' (k.trans k') r
theorem okB_of {K : PySem.W.Frag} {G : Gd} {ρ : List Sl} {σ : L2.St} {H H1 : Hp} {Q : VK} {b : W} (k : Keep G.dl H H1) (q : okB K cl G ρ σ H Q b) : okB K cl G ρ σ H1 Q b := fun v H' S' k' r => q v H' S' (k.trans k') r
theorem okA_of {K : PySem.W.Frag} {G : Gd} {ρ : List Sl} {σ : L2.St} {H H1 : Hp} {Q : List V → Hp → Prop} {b : List W} (k : Keep G.dl H H1) (q : okA K cl G ρ σ H Q b) : okA K cl G ρ σ H1 Q b := fun v H' S' k' r => q v H' S' (k.trans k') r
theorem pw_and1i (ha : PTi cl Wx X a ga) : PWi cl Wx X (.BoolOp .And [a] pos) ga := pw_and1 ha
theorem pw_or1i (ha : PTi cl Wx X a ga) : PWi cl Wx X (.BoolOp .Or [a] pos) ga := pw_or1 ha
theorem pw_andi (ha : PTi cl Wx X a ga) (hb : PWi cl Wx X (.BoolOp .And (b :: rest) pos) gb') : PWi cl Wx X (.BoolOp .And (a :: b :: rest) pos) (andT ga gb') := by
  refine ⟨fun wh pins s σ H Q I ⟨G, ρ, S, q⟩ => (pw_and ha hb).run wh pins s σ H Q I ⟨G, ρ, S, (ga ρ).mono (fun c q H' S' k => ?_) (fun _ z => z) q⟩⟩
  cases c with
  | true => exact ⟨G, ρ, S', (gb' ρ).mono (fun c q => okT_of k q) (fun _ z => exE_of k z) q⟩
  | false => exact q H' S' k
theorem pw_ori (ha : PTi cl Wx X a ga) (hb : PWi cl Wx X (.BoolOp .Or (b :: rest) pos) gb') : PWi cl Wx X (.BoolOp .Or (a :: b :: rest) pos) (orT ga gb') := by
  refine ⟨fun wh pins s σ H Q I ⟨G, ρ, S, q⟩ => (pw_or ha hb).run wh pins s σ H Q I ⟨G, ρ, S, (ga ρ).mono (fun c q H' S' k => ?_) (fun _ z => z) q⟩⟩
  cases c with
  | false => exact ⟨G, ρ, S', (gb' ρ).mono (fun c q => okT_of k q) (fun _ z => exE_of k z) q⟩
  | true => exact q H' S' k
theorem pt_noti (ha : PTi cl Wx X a ga) : PTi cl Wx X (.UnaryOp .Not a pos) (notT ga) := by
  refine ⟨fun pins s σ H Q I ⟨G, ρ, S, q⟩ => (pt_not ha).run pins s σ H Q I ⟨G, ρ, S, (ga ρ).mono (fun c q H' S' k => ?_) (fun _ z => z) q⟩⟩
  exact q H' S' k
def andV (f g : List Sl → M W) (ρ : List Sl) : M W := f ρ >>= fun w => M.ofO (asB w) >>= fun c => if c = true then g ρ else pure (.bl false)
def orV (f g : List Sl → M W) (ρ : List Sl) : M W := f ρ >>= fun w => M.ofO (asB w) >>= fun c => if c = true then pure (.bl true) else g ρ
def notV (f : List Sl → M W) (ρ : List Sl) : M W := f ρ >>= fun w => M.ofO (asB w) >>= fun c => pure (.bl (!c))
theorem pi_one {op} (h : PEi cl Wx X a fa) : PEi cl Wx X (.BoolOp op [a] pos) fa := pe_one h
theorem pi_and (ha : PEi cl Wx X a fa) (hb : PEi cl Wx X (.BoolOp .And (b :: rest) pos) fb) : PEi cl Wx X (.BoolOp .And (a :: b :: rest) pos) (andV fa fb) := by
  refine ⟨fun pins s σ H Q I ⟨G, ρ, S, q⟩ => (pe_and ha hb).run pins s σ H Q I ⟨G, ρ, S, (fa ρ).mono (fun w q v H' S' k r => ?_) (fun _ z => z) q⟩⟩
  obtain ⟨c, e, q⟩ := ofO_run q
  cases asB_some e
  refine ⟨c, r.bl_, ?_⟩
  cases c with
  | true => exact ⟨G, ρ, S', (fb ρ).mono (fun c q => okE_of k q) (fun _ z => exE_of k z) q⟩
  | false => exact q _ H' S' k .bl
theorem pi_or (ha : PEi cl Wx X a fa) (hb : PEi cl Wx X (.BoolOp .Or (b :: rest) pos) fb) : PEi cl Wx X (.BoolOp .Or (a :: b :: rest) pos) (orV fa fb) := by
  refine ⟨fun pins s σ H Q I ⟨G, ρ, S, q⟩ => (pe_or ha hb).run pins s σ H Q I ⟨G, ρ, S, (fa ρ).mono (fun w q v H' S' k r => ?_) (fun _ z => z) q⟩⟩
  obtain ⟨c, e, q⟩ := ofO_run q
  cases asB_some e
  refine ⟨c, r.bl_, ?_⟩
  cases c with
  | false => exact ⟨G, ρ, S', (fb ρ).mono (fun c q => okE_of k q) (fun _ z => exE_of k z) q⟩
  | true => exact q _ H' S' k .bl
theorem pi_not (ha : PEi cl Wx X a fa) : PEi cl Wx X (.UnaryOp .Not a pos) (notV fa) := by
  refine ⟨fun pins s σ H Q I ⟨G, ρ, S, q⟩ => (pe_not ha).run pins s σ H Q I ⟨G, ρ, S, (fa ρ).mono (fun w q v H' S' k r => ?_) (fun _ z => z) q⟩⟩
  obtain ⟨c, e, q⟩ := ofO_run q
  cases asB_some e
  exact ⟨c, r.bl_, q _ H' S' k .bl⟩
def ifE (t : List Sl → M Bool) (f g : List Sl → M W) (ρ : List Sl) : M W := t ρ >>= fun c => if c = true then f ρ else g ρ
theorem pi_if (hc : PTi cl Wx X c ga) (ha : PEi cl Wx X a fa) (hb : PEi cl Wx X b fb) : PEi cl Wx X (.IfExp c a b pos) (ifE ga fa fb) := by
  refine ⟨fun pins s σ H Q I ⟨G, ρ, S, q⟩ => (pe_ifExp hc ha hb).run pins s σ H Q I ⟨G, ρ, S, (ga ρ).mono (fun c q H' S' k => ?_) (fun _ z => z) q⟩⟩
  cases c with
  | true => exact ⟨G, ρ, S', (fa ρ).mono (fun c q => okE_of k q) (fun _ z => exE_of k z) q⟩
  | false => exact ⟨G, ρ, S', (fb ρ).mono (fun c q => okE_of k q) (fun _ z => exE_of k z) q⟩
def chn (g g' : W → W → Option W) (fa fb fc : List Sl → M W) (ρ : List Sl) : M W := fa ρ >>= fun x => fb ρ >>= fun y => M.ofO (g x y) >>= fun z => M.ofO (asB z) >>= fun k => if k = true then fc ρ >>= fun u => M.ofO (g' y u) else pure (.bl false)
theorem chain_run {r r' : R2} {op op' : CmpOp} {g g' : W → W → Option W} {f f' : Value → Value → Sem Value} {K : PySem.W.Frag} {G : Gd} {ρ : List Sl} {σ : L2.St} {H : Hp} {Q : VK}
    (h2 : ∀ {G ρ σ H wx wy x y w Q}, SR K cl G ρ σ H → RepB K cl G H wx x → RepB K cl G H wy y → g wx wy = some w → okE K cl G ρ σ H Q w → r x y H Q)
    (h2' : ∀ {G ρ σ H wx wy x y w Q}, SR K cl G ρ σ H → RepB K cl G H wx x → RepB K cl G H wy y → g' wx wy = some w → okE K cl G ρ σ H Q w → r' x y H Q)
    (S : SR K cl G ρ σ H) (q : (chn g g' fa fb fc ρ).run (okE K cl G ρ σ H Q) (exE K cl G ρ σ H Wx)) : tChain r r' (tIB K cl Wx fa) (tIB K cl Wx fb) (tIB K cl Wx fc) σ H Q := by
  refine two_run S q fun wx wy x y H' S' k rx ry q => ?_
  obtain ⟨w, e, q⟩ := ofO_run q
  refine h2 S' rx ry e fun v H3 S3 k3 r3 => ?_
  obtain ⟨b, e', q⟩ := ofO_run q
  cases asB_some e'
  refine ⟨b, r3.bl_, ?_⟩
  cases b with
  | false => exact q _ H3 S3 k3 .bl
  | true =>
    refine ⟨G, ρ, S3, (fc ρ).mono (fun wu q => ?_) (fun _ z => exE_of k3 z) q⟩
    intro u H4 S4 k4 r4
    obtain ⟨w, e, q⟩ := ofO_run q
    exact h2' S4 (ry.keep S' (k3.trans k4)) r4 e (okE_of (k3.trans k4) q)
theorem pi_chain {op op' : CmpOp} {g g' : W → W → Option W} (ho : OpW cl X (compareOp op) g) (ho' : OpW cl X (compareOp op') g') (ha : PEb cl Wx X a fa) (hb : PEb cl Wx X b fb) (hc : PEb cl Wx X c fc) (hm : lastMarks [op, op'] [b, c] = false := by rfl) :
    PEi cl Wx X (.Compare a [op, op'] [b, c] pos) (chn g g' fa fb fc) := by
  obtain ⟨r, h1, h2⟩ := ho
  obtain ⟨r', h1', h2'⟩ := ho'
  exact ⟨fun pins s σ H Q I ⟨G, ρ, S, q⟩ => (pe_chain h1 h1' ha hb hc (hm := hm)).run pins s σ H Q I (chain_run (op := op) (op' := op') (f := compareOp op) (f' := compareOp op') h2 h2' S q)⟩
theorem pt_chaini {op op' : CmpOp} {g g' : W → W → Option W} (ho : OpW cl X (compareOp op) g) (ho' : OpW cl X (compareOp op') g') (ha : PEb cl Wx X a fa) (hb : PEb cl Wx X b fb) (hc : PEb cl Wx X c fc) (hm : lastMarks [op, op'] [b, c] = false := by rfl) :
    PTi cl Wx X (.Compare a [op, op'] [b, c] pos) (tst (chn g g' fa fb fc)) := by
  obtain ⟨r, h1, h2⟩ := ho
  obtain ⟨r', h1', h2'⟩ := ho'
  refine ⟨fun pins s σ H Q I ⟨G, ρ, S, q⟩ => (pt_chain h1 h1' ha hb hc (hm := hm)).run pins s σ H Q I (chain_run (op := op) (op' := op') (f := compareOp op) (f' := compareOp op') h2 h2' S ((chn g g' fa fb fc ρ).mono (fun w q v H' S' k r => ?_) (fun _ z => z) q))⟩
  obtain ⟨b, e, q⟩ := ofO_run q
  cases asB_some e
  exact ⟨b, r.bl_, q H' S' k⟩
end
end Sh


namespace Sh
open PySem PySem.Spec PyProof.Rows L2
section
variable {X : Cx} {cl : Cl}
def int2 (C : Int → Int → Bool) (g : Int → Int → W) : W → W → Option W
  | .int i, .int j => if C i j = true then some (g i j) else none
  | _, _ => none
theorem int2_some {C : Int → Int → Bool} {g : Int → Int → W} {x y w : W} (h : int2 C g x y = some w) : ∃ i j, x = .int i ∧ y = .int j ∧ C i j = true ∧ w = g i j := by
  cases x with
  | int i => cases y with
    | int j =>
      by_cases e : C i j = true
      · simp only [int2, if_pos e] at h
        cases h
        exact ⟨i, j, rfl, rfl, e, rfl⟩
      · simp only [int2, if_neg e] at h
        cases h
    | _ => cases h
  | _ => cases h
theorem opw_int {f : Value → Value → Sem Value} {C' : Int → Int → Prop} {C : Int → Int → Bool} {g : Int → Int → W} {g' : Int → Int → V} (h : OpR X f (rI C' g')) (hC : ∀ i j, C i j = true → C' i j) (hg : ∀ i j Av dl H, Rep X.K cl Av dl H (g i j) (g' i j)) : OpW cl X f (int2 C g) := by
  refine ⟨_, h, fun S rx ry e q => ?_⟩
  obtain ⟨i, j, rfl, rfl, c, rfl⟩ := int2_some e
  exact ⟨i, j, rx.int_, ry.int_, hC i j c, q _ _ S .refl (hg i j _ _ _)⟩
theorem opw_int0 {f : Value → Value → Sem Value} {g : Int → Int → W} {g' : Int → Int → V} (h : OpR X f (rI0 g')) (hg : ∀ i j Av dl H, Rep X.K cl Av dl H (g i j) (g' i j)) : OpW cl X f (int2 (fun _ _ => true) g) := by
  refine ⟨_, h, fun S rx ry e q => ?_⟩
  obtain ⟨i, j, rfl, rfl, c, rfl⟩ := int2_some e
  exact ⟨i, j, rx.int_, ry.int_, q _ _ S .refl (hg i j _ _ _)⟩
abbrev yes2 : Int → Int → Bool := fun _ _ => true
def addI : W → W → Option W := int2 yes2 fun i j => .int (i + j)
def subI : W → W → Option W := int2 yes2 fun i j => .int (i - j)
def mulI : W → W → Option W := int2 (fun i j => decide ((-(2 ^ 64) < i ∧ i < 2 ^ 64) ∨ (-(2 ^ 64) < j ∧ j < 2 ^ 64))) fun i j => .int (i * j)
def fdivI : W → W → Option W := int2 (fun i j => decide (0 < j ∧ j.natAbs.log2 < 9000)) fun i j => .int (i / j)
def modI : W → W → Option W := int2 (fun _ j => decide (0 < j)) fun i j => .int (i % j)
def powI : W → W → Option W := int2 (fun i j => decide (0 ≤ j ∧ j ≤ 1000000 ∧ i.natAbs < 2 ^ 64)) fun i j => .int (i ^ j.toNat)
def ltI : W → W → Option W := int2 yes2 fun i j => .bl (decide (i < j))
def leI : W → W → Option W := int2 yes2 fun i j => .bl (decide (i ≤ j))
def gtI : W → W → Option W := int2 yes2 fun i j => .bl (decide (j < i))
def geI : W → W → Option W := int2 yes2 fun i j => .bl (decide (j ≤ i))
theorem ow_addI : OpW cl X (binaryOp .Add) addI := opw_int0 op_add fun _ _ _ _ _ => .int
theorem ow_sub : OpW cl X (binaryOp .Sub) subI := opw_int0 op_sub fun _ _ _ _ _ => .int
theorem ow_mulI : OpW cl X (binaryOp .Mult) mulI := opw_int op_mul (fun i j h => (of_decide_eq_true (p := ((-(2 ^ 64) < i ∧ i < 2 ^ 64) ∨ (-(2 ^ 64) < j ∧ j < 2 ^ 64))) h : CMul i j)) fun _ _ _ _ _ => .int
theorem ow_fdiv : OpW cl X (binaryOp .FloorDiv) fdivI := opw_int op_fdivW (fun i j h => (of_decide_eq_true (p := (0 < j ∧ j.natAbs.log2 < 9000)) h : CDivW i j)) fun _ _ _ _ _ => .int
theorem ow_mod : OpW cl X (binaryOp .Mod) modI := by
  refine ⟨_, op_modN, fun S rx ry e q => ?_⟩
  obtain ⟨i, j, rfl, rfl, c, rfl⟩ := int2_some e
  have hj : 0 < j := of_decide_eq_true c
  refine ⟨i, j, rx.int_, ry.int_, by omega, ?_⟩
  rename_i Q
  show Q (V.int (i.fmod j)) _
  rw [Int.fmod_eq_emod_of_nonneg _ (Int.le_of_lt hj)]
  exact q _ _ S .refl .int
theorem ow_pow : OpW cl X (binaryOp .Pow) powI := opw_int op_pow (fun i j h => (of_decide_eq_true (p := (0 ≤ j ∧ j ≤ 1000000 ∧ i.natAbs < 2 ^ 64)) h : CPow i j)) fun _ _ _ _ _ => .int
theorem ow_lt : OpW cl X (compareOp .Lt) ltI := opw_int0 op_lt fun _ _ _ _ _ => .bl
theorem ow_le : OpW cl X (compareOp .LtE) leI := opw_int0 op_le fun _ _ _ _ _ => .bl
theorem ow_gt : OpW cl X (compareOp .Gt) gtI := opw_int0 op_gt fun _ _ _ _ _ => .bl
theorem ow_ge : OpW cl X (compareOp .GtE) geI := opw_int0 op_ge fun _ _ _ _ _ => .bl
def addS : W → W → Option W
  | .str a, .str b => if a.length + b.length ≤ sizeLine then some (.str (a ++ b)) else none
  | _, _ => none
theorem ow_addS : OpW cl X (binaryOp .Add) addS := by
  refine ⟨_, op_add_str, fun {G ρ σ H wx wy x y w Q} S rx ry e q => ?_⟩
  cases wx with
  | str a => cases wy with
    | str b =>
      by_cases h : a.length + b.length ≤ sizeLine
      · simp only [addS, if_pos h] at e
        cases e
        exact ⟨a, b, rx.str_, ry.str_, h, q _ _ S .refl .str⟩
      · simp only [addS, if_neg h] at e
        cases e
    | _ => cases e
  | _ => cases e
def catL : W → W → Option W
  | .lst a, .lst b => if a.length + b.length ≤ sizeLine then some (.lst (a ++ b)) else none
  | _, _ => none
theorem ow_catL : OpW cl X (binaryOp .Add) catL := by
  refine ⟨_, op_cat, fun {G ρ σ H wx wy x y w Q} S rx ry e q => ?_⟩
  cases wx with
  | lst a => cases wy with
    | lst b =>
      by_cases h : a.length + b.length ≤ sizeLine
      · simp only [catL, if_pos h] at e
        cases e
        obtain ⟨p1, v1, rfl, h1, z1, r1⟩ := rx.lst_
        obtain ⟨p2, v2, rfl, h2, z2, r2⟩ := ry.lst_
        have hz : v1.length + v2.length ≤ sizeLine := by rw [← r1.length, ← r2.length]; exact h
        refine ⟨p1, p2, v1, v2, rfl, rfl, h1, h2, hz, fun p n => ?_⟩
        have g := upd_grow (o := .lst (v1 ++ v2)) n
        have k := (Keep.of g : Keep G.dl H _)
        exact q _ _ (S.grow g) k (.lst ⟨upd_same, S.fresh n⟩ (by rw [List.length_append]; exact hz) ((r1.append r2).keep (S.kp k)))
      · simp only [catL, if_neg h] at e
        cases e
    | _ => cases e
  | _ => cases e
def catT : W → W → Option W
  | .tup a, .tup b => if a.length + b.length ≤ sizeLine then some (.tup (a ++ b)) else none
  | _, _ => none
theorem Reps.nil_ {K : PySem.W.Frag} {Av : Addr → Prop} {dl : Option (Addr × Addr)} {H : Hp} {ws : List W} (r : Reps K cl Av dl H ws []) : ws = [] := by cases r; rfl
theorem ow_catT : OpW cl X (binaryOp .Add) catT := by
  refine ⟨_, op_catA, fun {G ρ σ H wx wy x y w Q} S rx ry e q => ?_⟩
  cases wx with
  | tup a => cases wy with
    | tup b =>
      by_cases h : a.length + b.length ≤ sizeLine
      · simp only [catT, if_pos h] at e
        cases e
        obtain ⟨p1, v1, rfl, h1, z1, r1⟩ := rx.tup_
        obtain ⟨p2, v2, rfl, h2, z2, r2⟩ := ry.tup_
        have hz : v1.length + v2.length ≤ sizeLine := by rw [← r1.length, ← r2.length]; exact h
        refine ⟨p1, p2, v1, v2, rfl, rfl, h1.sq, h2.sq, hz, fun e1 => ?_, fun e1 e2 => ?_, fun _ _ p n => ?_⟩
        · subst e1
          cases r1.nil_
          exact q _ _ S .refl (.tup h2 z2 r2)
        · subst e2
          cases r2.nil_
          rw [List.append_nil] at q
          exact q _ _ S .refl (.tup h1 z1 r1)
        · have g := upd_grow (o := .tup (v1 ++ v2)) n
          have k := (Keep.of g : Keep G.dl H _)
          exact q _ _ (S.grow g) k (.tup (.inl ⟨upd_same, S.fresh n⟩) (by rw [List.length_append]; exact hz) ((r1.append r2).keep (S.kp k)))
      · simp only [catT, if_neg h] at e
        cases e
    | _ => cases e
  | _ => cases e
def addW (x y : W) : Option W := (addI x y).or ((addS x y).or ((catL x y).or (catT x y)))
theorem ow_add : OpW cl X (binaryOp .Add) addW := ow_addI.or (ow_addS.or (ow_catL.or ow_catT))
def repL : W → W → Option W
  | .lst a, .int k => if -(2 ^ 63) ≤ k ∧ k < 2 ^ 63 ∧ a.length * k.toNat ≤ sizeLine then some (.lst (List.replicate k.toNat a).flatten) else none
  | _, _ => none
theorem Reps.rep {K : PySem.W.Frag} {Av : Addr → Prop} {dl : Option (Addr × Addr)} {H : Hp} {ws : List W} {vs : List V} (r : Reps K cl Av dl H ws vs) : ∀ n : Nat, Reps K cl Av dl H (List.replicate n ws).flatten (List.replicate n vs).flatten
  | 0 => .nil
  | n + 1 => by
    rw [List.replicate_succ, List.replicate_succ, List.flatten_cons, List.flatten_cons]
    exact r.append (r.rep n)
theorem ow_repL : OpW cl X (binaryOp .Mult) repL := by
  refine ⟨_, op_rep, fun {G ρ σ H wx wy x y w Q} S rx ry e q => ?_⟩
  cases wx with
  | lst a => cases wy with
    | int j =>
      by_cases h : -(2 ^ 63) ≤ j ∧ j < 2 ^ 63 ∧ a.length * j.toNat ≤ sizeLine
      · simp only [repL, if_pos h] at e
        cases e
        obtain ⟨p1, v1, rfl, h1, z1, r1⟩ := rx.lst_
        have hz : v1.length * j.toNat ≤ sizeLine := by rw [← r1.length]; exact h.2.2
        refine ⟨p1, j, v1, rfl, ry.int_, h1, h.1, h.2.1, hz, fun p n => ?_⟩
        have g := upd_grow (o := .lst (List.replicate j.toNat v1).flatten) n
        have k := (Keep.of g : Keep G.dl H _)
        refine q _ _ (S.grow g) k (.lst ⟨upd_same, S.fresh n⟩ ?_ ((r1.rep _).keep (S.kp k)))
        have e1 : (List.replicate j.toNat v1).flatten.length = v1.length * j.toNat := by
          rw [List.length_flatten, List.map_replicate, List.sum_replicate_nat]
          exact Nat.mul_comm _ _
        rw [e1]
        exact hz
      · simp only [repL, if_neg h] at e
        cases e
    | _ => cases e
  | _ => cases e
def mulW (x y : W) : Option W := (mulI x y).or (repL x y)
theorem ow_mul : OpW cl X (binaryOp .Mult) mulW := ow_mulI.or ow_repL
mutual
def toD : W → Option PyData
  | .non => some .none
  | .bl b => some (.bool b)
  | .int i => some (.int i)
  | .str x => some (.str x)
  | .tup l => (toDs l).map .tuple
  | .lst l => (toDs l).map .list
  | _ => none
def toDs : List W → Option (List PyData)
  | [] => some []
  | w :: ws => match toD w, toDs ws with
    | some d, some ds => some (d :: ds)
    | _, _ => none
end
section
variable {K : PySem.W.Frag} {Av : Addr → Prop} {dl : Option (Addr × Addr)} {H : Hp}
mutual
theorem toD_ok : ∀ {w : W} {v : V} {d : PyData}, Rep K cl Av dl H w v → toD w = some d → Dp K H v d
  | .non, _, _, r, e => by
    rw [toD] at e
    cases e
    cases r.non_
    exact .non
  | .bl b, _, _, r, e => by
    rw [toD] at e
    cases e
    cases r.bl_
    exact .bl b
  | .int b, _, _, r, e => by
    rw [toD] at e
    cases e
    cases r.int_
    exact .int b
  | .str b, _, _, r, e => by
    rw [toD] at e
    cases e
    cases r.str_
    exact .str b
  | .tup l, _, _, r, e => by
    rw [toD] at e
    cases hd : toDs l with
    | none => rw [hd] at e; cases e
    | some ds =>
      rw [hd] at e
      cases e
      obtain ⟨a, vs, rfl, h, _, r⟩ := r.tup_
      exact .tup h.sq (toDs_ok r hd)
  | .lst l, _, _, r, e => by
    rw [toD] at e
    cases hd : toDs l with
    | none => rw [hd] at e; cases e
    | some ds =>
      rw [hd] at e
      cases e
      obtain ⟨a, vs, rfl, h, _, r⟩ := r.lst_
      exact .lst h.sq (toDs_ok r hd)
  | .ins _ _ _, _, _, _, e => by simp [toD] at e
  | .ro _, _, _, _, e => by simp [toD] at e
  | .cls _, _, _, _, e => by simp [toD] at e
  | .ty _, _, _, _, e => by simp [toD] at e
  | .opq _, _, _, _, e => by simp [toD] at e
theorem toDs_ok : ∀ {ws : List W} {vs : List V} {ds : List PyData}, Reps K cl Av dl H ws vs → toDs ws = some ds → DpAll K H vs ds
  | [], _, _, r, e => by
    rw [toDs] at e
    cases e
    cases r
    exact .nil
  | w :: ws, _, _, r, e => by
    rw [toDs] at e
    cases h1 : toD w with
    | none => rw [h1] at e; cases e
    | some d =>
      cases h2 : toDs ws with
      | none => rw [h1, h2] at e; cases e
      | some ds =>
        rw [h1, h2] at e
        cases e
        cases r with
        | cons r t => exact .cons (toD_ok r h1) (toDs_ok t h2)
end
theorem toD_okB {G : Gd} {w : W} {v : V} {d : PyData} (r : RepB K cl G H w v) (e : toD w = some d) : Dp K H v d := by
  rcases r with r | ⟨ws, a, vs, rfl, rfl, h, r, z, _⟩
  · exact toD_ok r e
  · rw [toD] at e
    cases hd : toDs ws with
    | none => rw [hd] at e; cases e
    | some ds =>
      rw [hd] at e
      cases e
      exact .lst (.inl (.inl h)) (toDs_ok r hd)
end
def eqD (neg : Bool) (x y : W) : Option W := match toD x, toD y with
  | some d, some e => if SeqAt.shaped d = true ∧ SeqAt.shaped e = true then some (.bl (if neg then !PyData.eqv d e else PyData.eqv d e)) else none
  | _, _ => none
theorem eqD_some {neg : Bool} {x y w : W} (h : eqD neg x y = some w) : ∃ d e, toD x = some d ∧ toD y = some e ∧ SeqAt.shaped d = true ∧ SeqAt.shaped e = true ∧ w = .bl (if neg then !PyData.eqv d e else PyData.eqv d e) := by
  unfold eqD at h
  split at h
  · rename_i d e h1 h2
    by_cases c : SeqAt.shaped d = true ∧ SeqAt.shaped e = true
    · rw [if_pos c] at h
      cases h
      exact ⟨d, e, h1, h2, c.1, c.2, rfl⟩
    · rw [if_neg c] at h
      cases h
  · cases h
theorem ow_eqD (hu : X.A.units + 64 < cLine) : OpW cl X (compareOp .Eq) (eqD false) := by
  refine ⟨_, op_eqD hu, fun S rx ry e0 q => ?_⟩
  obtain ⟨d, e, h1, h2, h3, h4, rfl⟩ := eqD_some e0
  exact ⟨d, e, toD_okB rx h1, toD_okB ry h2, h3, h4, q _ _ S .refl .bl⟩
theorem ow_neD (hu : X.A.units + 64 < cLine) : OpW cl X (compareOp .NotEq) (eqD true) := by
  refine ⟨_, op_neD hu, fun S rx ry e0 q => ?_⟩
  obtain ⟨d, e, h1, h2, h3, h4, rfl⟩ := eqD_some e0
  exact ⟨d, e, toD_okB rx h1, toD_okB ry h2, h3, h4, q _ _ S .refl .bl⟩
def isN (neg : Bool) (f : List Sl → M W) (ρ : List Sl) : M W := f ρ >>= fun w => pure (.bl (match w with | .non => !neg | _ => neg))
theorem rep_non {K : PySem.W.Frag} {G : Gd} {H : Hp} {w : W} {v : V} (r : RepB K cl G H w v) : decide (v = .non) = (match w with | .non => true | _ => false) := by
  rcases r with r | ⟨ws, a, vs, rfl, rfl, _⟩
  · cases r <;> rfl
  · rfl
variable {Wx : WX} {a b : Expr} {fa fb : List Sl → M W} {pos : Pos}
theorem pi_isN {j pos'} (h : PEb cl Wx X a fa) : PEi cl Wx X (.Compare a [.Is] [.Constant .none j pos'] pos) (isN false fa) := by
  refine ⟨fun pins s σ H Q I ⟨G, ρ, S, q⟩ => (pe_cmp (pc_isN h)).run pins s σ H Q I ⟨G, ρ, S, (fa ρ).mono (fun w q v H' S' k r => ?_) (fun _ z => z) q⟩⟩
  have q := q (.bl _) H' S' k .bl
  show Q (.bl (decide (v = .non))) H'
  rw [rep_non r]
  cases w <;> exact q
theorem pi_notN {j pos'} (h : PEb cl Wx X a fa) : PEi cl Wx X (.Compare a [.IsNot] [.Constant .none j pos'] pos) (isN true fa) := by
  refine ⟨fun pins s σ H Q I ⟨G, ρ, S, q⟩ => (pe_cmp (pc_notN h)).run pins s σ H Q I ⟨G, ρ, S, (fa ρ).mono (fun w q v H' S' k r => ?_) (fun _ z => z) q⟩⟩
  have q := q (.bl _) H' S' k .bl
  show Q (.bl (!decide (v = .non))) H'
  rw [rep_non r]
  cases w <;> exact q
theorem pt_isN {j pos'} (h : PEb cl Wx X a fa) : PTi cl Wx X (.Compare a [.Is] [.Constant .none j pos'] pos) (tst (isN false fa)) := by
  refine ⟨fun pins s σ H Q I ⟨G, ρ, S, q⟩ => (pt_cmp (pc_isN h)).run pins s σ H Q I ⟨G, ρ, S, (fa ρ).mono (fun w q v H' S' k r => ?_) (fun _ z => z) q⟩⟩
  refine ⟨_, rfl, ?_⟩
  show Q (decide (v = .non)) H'
  rw [rep_non r]
  cases w <;> exact q H' S' k
theorem pt_notN {j pos'} (h : PEb cl Wx X a fa) : PTi cl Wx X (.Compare a [.IsNot] [.Constant .none j pos'] pos) (tst (isN true fa)) := by
  refine ⟨fun pins s σ H Q I ⟨G, ρ, S, q⟩ => (pt_cmp (pc_notN h)).run pins s σ H Q I ⟨G, ρ, S, (fa ρ).mono (fun w q v H' S' k r => ?_) (fun _ z => z) q⟩⟩
  refine ⟨_, rfl, ?_⟩
  show Q (!decide (v = .non)) H'
  rw [rep_non r]
  cases w <;> exact q H' S' k
def neg1 (f : List Sl → M W) (ρ : List Sl) : M W := f ρ >>= fun w => match w with | .int i => pure (.int (-i)) | _ => M.bad
theorem pi_neg (h : PEi cl Wx X a fa) : PEi cl Wx X (.UnaryOp .USub a pos) (neg1 fa) := by
  refine ⟨fun pins s σ H Q I ⟨G, ρ, S, q⟩ => (pe_un un_neg h).run pins s σ H Q I ⟨G, ρ, S, (fa ρ).mono (fun w q v H' S' k r => ?_) (fun _ z => z) q⟩⟩
  cases w with
  | int i => exact ⟨i, r.int_, q _ H' S' k .int⟩
  | _ => exact q.elim
end
end Sh


namespace Sh
open PySem PySem.Spec PyProof.Rows L2
section
variable {X : Cx} {cl : Cl} {Wx : WX} {e a b : Expr} {es : List Expr} {fa fb : List Sl → M W} {fs : List Sl → M (List W)} {pos p p2 : Pos} {x : Str}
def aNil (_ : List Sl) : M (List W) := pure []
def aCons (f : List Sl → M W) (fs : List Sl → M (List W)) (ρ : List Sl) : M (List W) := f ρ >>= fun w => fs ρ >>= fun ws => pure (w :: ws)
def items : W → Option (List W)
  | .tup l => some l
  | .lst l => some l
  | _ => none
def aStar (f : List Sl → M W) (fs : List Sl → M (List W)) (ρ : List Sl) : M (List W) := f ρ >>= fun w => M.ofO (items w) >>= fun l => fs ρ >>= fun ws => pure (l ++ ws)
theorem pai_nil : PAi cl Wx X [] aNil := ⟨fun pos pins s σ H Q I ⟨G, ρ, S, q⟩ => pa_nil.run pos pins s σ H Q I (q [] H S .refl .nil)⟩
theorem pai_cons (ha : PEi cl Wx X e fa) (hs : PAi cl Wx X es fs) (h : starEach (e :: es) X.env = (false, eval e X.env) :: starEach es X.env := by rfl) : PAi cl Wx X (e :: es) (aCons fa fs) := by
  refine ⟨fun pos pins s σ H Q I ⟨G, ρ, S, q⟩ => (pa_cons ha hs h).run pos pins s σ H Q I ⟨G, ρ, S, (fa ρ).mono (fun w q v H1 S1 k1 r1 => ?_) (fun _ z => z) q⟩⟩
  refine ⟨G, ρ, S1, (fs ρ).mono (fun ws q vs H2 S2 k2 r2 => ?_) (fun _ z => exE_of k1 z) q⟩
  exact q (v :: vs) H2 S2 (k1.trans k2) (.cons (r1.keep (S1.kp k2)) r2)
theorem items_ok {K : PySem.W.Frag} {G : Gd} {H : Hp} {w : W} {l : List W} {v : V} (r : RepB K cl G H w v) (e : items w = some l) : ∃ a vs, v = .ref a ∧ (SqT K H a vs ∨ SqL K H a vs) ∧ Reps K cl G.Av G.dl H l vs ∧ vs.length ≤ sizeLine := by
  cases w with
  | tup l => cases e; obtain ⟨a, vs, h1, h2, h3, h4⟩ := r.tup_; exact ⟨a, vs, h1, .inl h2.sq, h4, h3⟩
  | lst l => cases e; obtain ⟨a, vs, h1, h2, h3, h4⟩ := r.lst_; exact ⟨a, vs, h1, .inr (.inl (.inl h2)), h4, h3⟩
  | _ => cases e
theorem pai_star (ha : PEb cl Wx X e fa) (hs : PAi cl Wx X es fs) (h : starEach (.Starred e p :: es) X.env = (true, eval e X.env) :: starEach es X.env := by rfl) : PAi cl Wx X (.Starred e p :: es) (aStar fa fs) := by
  refine ⟨fun pos pins s σ H Q I ⟨G, ρ, S, q⟩ => (StX.pa_star ha hs h).run pos pins s σ H Q I ⟨G, ρ, S, (fa ρ).mono (fun w q v H1 S1 k1 r1 => ?_) (fun _ z => z) q⟩⟩
  obtain ⟨l, el, q⟩ := ofO_run q
  obtain ⟨a, vs, rfl, h2, h3, _⟩ := items_ok r1 el
  refine ⟨a, vs, rfl, h2, G, ρ, S1, (fs ρ).mono (fun ws q us H2 S2 k2 r2 => ?_) (fun _ z => exE_of k1 z) q⟩
  exact q _ H2 S2 (k1.trans k2) ((h3.keep (S1.kp k2)).append r2)
def dTup (fs : List Sl → M (List W)) (ρ : List Sl) : M W := fs ρ >>= fun l => if l.length ≤ sizeLine then pure (.tup l) else M.bad
def dLst (fs : List Sl → M (List W)) (ρ : List Sl) : M (List W) := fs ρ >>= fun l => if l.length ≤ sizeLine then pure l else M.bad
theorem ite_run {α : Type} {c : Prop} [Decidable c] {m : M α} {Q E} (h : (if c then m else M.bad).run Q E) : c ∧ m.run Q E := by
  by_cases hc : c
  · rw [if_pos hc] at h; exact ⟨hc, h⟩
  · rw [if_neg hc] at h; exact h.elim
theorem pi_tup {x1} (ha : PAi cl Wx X es fs) : PEi cl Wx X (.Tuple es x1 pos) (dTup fs) := by
  refine ⟨fun pins s σ H Q I ⟨G, ρ, S, q⟩ => (pe_tup ha).run pins s σ H Q I ⟨G, ρ, S, (fs ρ).mono (fun ws q vs H1 S1 k1 r1 => ?_) (fun _ z => z) q⟩⟩
  obtain ⟨hc, q⟩ := ite_run q
  have hz : vs.length ≤ sizeLine := by rw [← r1.length]; exact hc
  refine ⟨hz, fun p n => ?_⟩
  have g := upd_grow (o := .tup vs) n
  have k := (Keep.of g : Keep G.dl H1 _)
  exact q _ _ (S1.grow g) (k1.trans k) (.tup (.inl ⟨upd_same, S1.fresh n⟩) hz (r1.keep (S1.kp k)))
theorem pf_lst (ha : PAi cl Wx X es fs) : PEf cl Wx X (.List es pos) (dLst fs) := by
  refine ⟨fun pins s σ H Q I ⟨G, ρ, S, q⟩ => (pe_lst ha).run pins s σ H Q I ⟨G, ρ, S, (fs ρ).mono (fun ws q vs H1 S1 k1 r1 => ?_) (fun _ z => z) q⟩⟩
  obtain ⟨hc, q⟩ := ite_run q
  have hz : vs.length ≤ sizeLine := by rw [← r1.length]; exact hc
  refine ⟨hz, fun p n => ?_⟩
  have g := upd_grow (o := .lst vs) n
  have k := (Keep.of g : Keep G.dl H1 _)
  refine q p vs _ (S1.grow g) (k1.trans k) ?_ upd_same (S1.fresh n) (r1.keep (S1.kpNew n)) hz
  cases e : H p with
  | none => rfl
  | some o =>
    by_cases z : isDl G.dl p
    · exact (S1.fresh n (.inl (.inl (S1.dlA p z)))).elim
    · rw [k1 p o e z] at n; cases n
def ixW : W → W → Option W
  | .lst l, .int i => atI l i
  | .tup l, .int i => atI l i
  | .str z, .int i => if z.length ≤ sizeLine then (atI z.cps.toList i).map fun c => .str ⟨#[c]⟩ else none
  | _, _ => none
theorem Reps.atI {K : PySem.W.Frag} {Av : Addr → Prop} {dl : Option (Addr × Addr)} {H : Hp} {ws : List W} {vs : List V} {i : Int} {w : W} (r : Reps K cl Av dl H ws vs) (h : L2.atI ws i = some w) : ∃ v, L2.atI vs i = some v ∧ Rep K cl Av dl H w v := by
  unfold L2.atI at h ⊢
  rw [r.length] at h
  cases e : ixN vs.length i with
  | none => rw [e] at h; cases h
  | some j =>
    rw [e] at h
    exact r.get h
theorem ix_seqS : IxR X (fun x y H Q => rIxL X.K x y H Q ∨ (rIxT X.K x y H Q ∨ rIxS x y H Q)) := ix_list.or (ix_tup.or ix_str)
theorem pi_ix (ha : PEb cl Wx X a fa) (hb : PEb cl Wx X b fb) (hs : PlainIx b := by exact fun _ _ => rfl) : PEi cl Wx X (.Subscript a b pos) (bin ixW fa fb) := by
  refine ⟨fun pins s σ H Q I ⟨G, ρ, S, q⟩ => (pe_ix ix_seqS ha hb hs).run pins s σ H Q I (two_run S q fun wx wy x y H' S' k rx ry q => ?_)⟩
  obtain ⟨w, e, q'⟩ := ofO_run q
  clear q
  cases wy with
  | int i =>
    cases ry.int_
    cases wx with
    | lst l =>
      obtain ⟨a, vs, rfl, h, z, r⟩ := rx.lst_
      obtain ⟨v, h1, h2⟩ := r.atI (i := i) (w := w) e
      exact .inl ⟨a, vs, i, v, rfl, rfl, .inl (.inl h), h1, q' v H' S' .refl h2⟩
    | tup l =>
      obtain ⟨a, vs, rfl, h, z, r⟩ := rx.tup_
      obtain ⟨v, h1, h2⟩ := r.atI (i := i) (w := w) e
      exact .inr (.inl ⟨a, vs, i, v, rfl, rfl, h.sq, h1, q' v H' S' .refl h2⟩)
    | str t =>
      cases rx.str_
      by_cases hz : t.length ≤ sizeLine
      · simp only [ixW, if_pos hz] at e
        cases e2 : L2.atI t.cps.toList i with
        | none => rw [e2] at e; cases e
        | some c =>
          rw [e2] at e
          cases e
          exact .inr (.inr ⟨t, i, c, rfl, rfl, hz, e2, q' _ H' S' .refl .str⟩)
      · simp only [ixW, if_neg hz] at e
        cases e
    | _ => cases e
  | _ => cases wx <;> cases e
def CW1 (cl : Cl) (X : Cx) (f : Value) (g : W → Option W) : Prop :=
  ∃ r : List V → Hp → VK → Prop, CallR X f r ∧ ∀ {G ρ σ H wx x w Q}, SR X.K cl G ρ σ H → RepB X.K cl G H wx x → g wx = some w → okE X.K cl G ρ σ H Q w → r [x] H Q
def CW1F (cl : Cl) (X : Cx) (f : Value) (g : W → Option (List W)) : Prop :=
  ∃ r : List V → Hp → VK → Prop, CallR X f r ∧ ∀ {G ρ σ H wx x w Q}, SR X.K cl G ρ σ H → RepB X.K cl G H wx x → g wx = some w → okF X.K cl G ρ σ H Q w → r [x] H Q
def CW2 (cl : Cl) (X : Cx) (f : Value) (g : W → W → Option W) : Prop :=
  ∃ r : List V → Hp → VK → Prop, CallR X f r ∧ ∀ {G ρ σ H wx wy x y w Q}, SR X.K cl G ρ σ H → RepB X.K cl G H wx x → RepB X.K cl G H wy y → g wx wy = some w → okE X.K cl G ρ σ H Q w → r [x, y] H Q
theorem CW1.or {f : Value} {g g' : W → Option W} (h : CW1 cl X f g) (h' : CW1 cl X f g') : CW1 cl X f (fun x => (g x).or (g' x)) := by
  obtain ⟨r, h1, h2⟩ := h
  obtain ⟨r', h1', h2'⟩ := h'
  refine ⟨fun xs H Q => r xs H Q ∨ r' xs H Q, fun pins s σ H xs us Q I rx q => q.elim (h1 pins s σ H xs us Q I rx) (h1' pins s σ H xs us Q I rx), fun {G ρ σ H wx x w Q} S rx e q => ?_⟩
  replace e : (g wx).or (g' wx) = some w := e
  cases e1 : g wx with
  | some z => rw [e1, Option.some_or] at e; exact .inl (h2 S rx (e1.trans e) q)
  | none => rw [e1, Option.none_or] at e; exact .inr (h2' S rx e q)
def un1 (g : W → Option W) (f : List Sl → M W) (ρ : List Sl) : M W := f ρ >>= fun w => M.ofO (g w)
def unF (g : W → Option (List W)) (f : List Sl → M W) (ρ : List Sl) : M (List W) := f ρ >>= fun w => M.ofO (g w)
theorem pi_callB1 {id : String} {g : W → Option W} (hc : CW1 cl X (.builtin id) g) (hg : Gl X x) (hm : X.mg x = none) (hv : bootBuiltins x = some (.builtin id)) (ha : PEb cl Wx X e fa) (hn : x ≠ "__name__" := by decide) (hdb : (x == ("__debug__" : Str)) = false := by decide)
    (he : starEach [e] X.env = (false, eval e X.env) :: starEach [] X.env := by rfl) : PEi cl Wx X (.Call (.Name x p) [e] [] pos) (un1 g fa) := by
  obtain ⟨r, h1, h2⟩ := hc
  refine ⟨fun pins s σ H Q I ⟨G, ρ, S, q⟩ => (pe_callB h1 hg hm hv (pa_cons ha pa_nil he) hn hdb he).run pins s σ H Q I ⟨G, ρ, S, (fa ρ).mono (fun w q v H1 S1 k1 r1 => ?_) (fun _ z => z) q⟩⟩
  obtain ⟨w, e, q⟩ := ofO_run q
  exact h2 S1 r1 e (okE_of k1 q)
theorem pi_callT1 {T : String} {g : W → Option W} (hc : CW1 cl X (.type T) g) (hg : Gl X x) (hm : X.mg x = none) (hv : bootBuiltins x = some (.type T)) (ha : PEb cl Wx X e fa) (hn : x ≠ "__name__" := by decide) (hdb : (x == ("__debug__" : Str)) = false := by decide)
    (he : starEach [e] X.env = (false, eval e X.env) :: starEach [] X.env := by rfl) : PEi cl Wx X (.Call (.Name x p) [e] [] pos) (un1 g fa) := by
  obtain ⟨r, h1, h2⟩ := hc
  refine ⟨fun pins s σ H Q I ⟨G, ρ, S, q⟩ => (pe_callTy h1 hg hm hv (pa_cons ha pa_nil he) hn hdb he).run pins s σ H Q I ⟨G, ρ, S, (fa ρ).mono (fun w q v H1 S1 k1 r1 => ?_) (fun _ z => z) q⟩⟩
  obtain ⟨w, e, q⟩ := ofO_run q
  exact h2 S1 r1 e (okE_of k1 q)
theorem okF_of {K : PySem.W.Frag} {G : Gd} {ρ : List Sl} {σ : L2.St} {H H1 : Hp} {Q : VK} {b : List W} (S : SR K cl G ρ σ H1) (k : Keep G.dl H H1) (q : okF K cl G ρ σ H Q b) : okF K cl G ρ σ H1 Q b := fun a vs H' S' k' n h na r z => by
  refine q a vs H' S' (k.trans k') ?_ h na r z
  cases e : H a with
  | none => rfl
  | some o =>
    by_cases y : isDl G.dl a
    · exact (na (.inl (.inl (S.dlA a y)))).elim
    · rw [k a o e y] at n; cases n
theorem pf_callB1 {id : String} {g : W → Option (List W)} (hc : CW1F cl X (.builtin id) g) (hg : Gl X x) (hm : X.mg x = none) (hv : bootBuiltins x = some (.builtin id)) (ha : PEb cl Wx X e fa) (hn : x ≠ "__name__" := by decide) (hdb : (x == ("__debug__" : Str)) = false := by decide)
    (he : starEach [e] X.env = (false, eval e X.env) :: starEach [] X.env := by rfl) : PEf cl Wx X (.Call (.Name x p) [e] [] pos) (unF g fa) := by
  obtain ⟨r, h1, h2⟩ := hc
  refine ⟨fun pins s σ H Q I ⟨G, ρ, S, q⟩ => (pe_callB h1 hg hm hv (pa_cons ha pa_nil he) hn hdb he).run pins s σ H Q I ⟨G, ρ, S, (fa ρ).mono (fun w q v H1 S1 k1 r1 => ?_) (fun _ z => z) q⟩⟩
  obtain ⟨w, e, q⟩ := ofO_run q
  exact h2 S1 r1 e (okF_of S1 k1 q)
theorem pf_callT1 {T : String} {g : W → Option (List W)} (hc : CW1F cl X (.type T) g) (hg : Gl X x) (hm : X.mg x = none) (hv : bootBuiltins x = some (.type T)) (ha : PEb cl Wx X e fa) (hn : x ≠ "__name__" := by decide) (hdb : (x == ("__debug__" : Str)) = false := by decide)
    (he : starEach [e] X.env = (false, eval e X.env) :: starEach [] X.env := by rfl) : PEf cl Wx X (.Call (.Name x p) [e] [] pos) (unF g fa) := by
  obtain ⟨r, h1, h2⟩ := hc
  refine ⟨fun pins s σ H Q I ⟨G, ρ, S, q⟩ => (pe_callTy h1 hg hm hv (pa_cons ha pa_nil he) hn hdb he).run pins s σ H Q I ⟨G, ρ, S, (fa ρ).mono (fun w q v H1 S1 k1 r1 => ?_) (fun _ z => z) q⟩⟩
  obtain ⟨w, e, q⟩ := ofO_run q
  exact h2 S1 r1 e (okF_of S1 k1 q)
theorem pi_callB2 {id : String} {g : W → W → Option W} (hc : CW2 cl X (.builtin id) g) (hg : Gl X x) (hm : X.mg x = none) (hv : bootBuiltins x = some (.builtin id)) (ha : PEb cl Wx X a fa) (hb : PEb cl Wx X b fb) (hn : x ≠ "__name__" := by decide) (hdb : (x == ("__debug__" : Str)) = false := by decide)
    (he : starEach [a, b] X.env = (false, eval a X.env) :: starEach [b] X.env := by rfl) (he2 : starEach [b] X.env = (false, eval b X.env) :: starEach [] X.env := by rfl) (hpl : (backTo pos (starEach [b] X.env)).any (·.1) = false := by rfl) : PEi cl Wx X (.Call (.Name x p) [a, b] [] pos) (bin g fa fb) := by
  obtain ⟨r, h1, h2⟩ := hc
  refine ⟨fun pins s σ H Q I ⟨G, ρ, S, q⟩ => (pe_callB h1 hg hm hv (pa_cons ha (pa_cons hb pa_nil he2) he) hn hdb he hpl).run pins s σ H Q I (two_run S q fun wx wy x y H' S' k rx ry q => ?_)⟩
  obtain ⟨w, e, q⟩ := ofO_run q
  exact h2 S' rx ry e q
end
end Sh


namespace Sh
open PySem PySem.Spec PyProof.Rows L2
def asInts : List W → Option (List Int)
  | [] => some []
  | .int i :: r => (asInts r).map (i :: ·)
  | _ :: _ => none
def asBools : List W → Option (List Bool)
  | [] => some []
  | .bl i :: r => (asBools r).map (i :: ·)
  | _ :: _ => none
def asStrs : List W → Option (List Str)
  | [] => some []
  | .str i :: r => (asStrs r).map (i :: ·)
  | _ :: _ => none
theorem asInts_map (ns : List Int) : asInts (ns.map W.int) = some ns := by
  induction ns with
  | nil => rfl
  | cons n r ih => simp [asInts, ih]
theorem asBools_map (ns : List Bool) : asBools (ns.map W.bl) = some ns := by
  induction ns with
  | nil => rfl
  | cons n r ih => simp [asBools, ih]
theorem asStrs_map (ns : List Str) : asStrs (ns.map W.str) = some ns := by
  induction ns with
  | nil => rfl
  | cons n r ih => simp [asStrs, ih]
section
variable {K : PySem.W.Frag} {cl : Cl} {Av : Addr → Prop} {dl : Option (Addr × Addr)} {H : Hp}
theorem asInts_ok : ∀ {ws : List W} {vs : List V} {ns : List Int}, Reps K cl Av dl H ws vs → asInts ws = some ns → vs = ns.map V.int
  | [], _, _, r, e => by cases r; cases e; rfl
  | w :: ws, _, ns, r, e => by
    cases r with
    | cons r t =>
      cases w with
      | int i =>
        cases h : asInts ws with
        | none => simp [asInts, h] at e
        | some l =>
          simp only [asInts, h, Option.map_some, Option.some.injEq] at e
          subst e
          rw [asInts_ok t h, r.int_]
          rfl
      | _ => cases e
theorem asBools_ok : ∀ {ws : List W} {vs : List V} {ns : List Bool}, Reps K cl Av dl H ws vs → asBools ws = some ns → vs = ns.map V.bl
  | [], _, _, r, e => by cases r; cases e; rfl
  | w :: ws, _, ns, r, e => by
    cases r with
    | cons r t =>
      cases w with
      | bl i =>
        cases h : asBools ws with
        | none => simp [asBools, h] at e
        | some l =>
          simp only [asBools, h, Option.map_some, Option.some.injEq] at e
          subst e
          rw [asBools_ok t h, r.bl_]
          rfl
      | _ => cases e
theorem asStrs_ok : ∀ {ws : List W} {vs : List V} {ns : List Str}, Reps K cl Av dl H ws vs → asStrs ws = some ns → vs = ns.map V.str
  | [], _, _, r, e => by cases r; cases e; rfl
  | w :: ws, _, ns, r, e => by
    cases r with
    | cons r t =>
      cases w with
      | str i =>
        cases h : asStrs ws with
        | none => simp [asStrs, h] at e
        | some l =>
          simp only [asStrs, h, Option.map_some, Option.some.injEq] at e
          subst e
          rw [asStrs_ok t h, r.str_]
          rfl
      | _ => cases e
theorem reps_ints : ∀ (ns : List Int), Reps K cl Av dl H (ns.map W.int) (ns.map V.int)
  | [] => .nil
  | _ :: r => .cons .int (reps_ints r)
theorem reps_strs : ∀ (ns : List Str), Reps K cl Av dl H (ns.map W.str) (ns.map V.str)
  | [] => .nil
  | _ :: r => .cons .str (reps_strs r)
end
section
variable {X : Cx} {cl : Cl} {Wx : WX} {e a b : Expr} {fa fb : List Sl → M W} {pos p : Pos} {x : Str}
def lenW : W → Option W
  | .str y => if y.length ≤ sizeLine then some (.int y.length) else none
  | .lst l => some (.int l.length)
  | .tup l => some (.int l.length)
  | _ => none
theorem cw_len : CW1 cl X (.builtin "len") lenW := by
  refine ⟨_, call_len, fun {G ρ σ H wx x w Q} S rx e q => ?_⟩
  cases wx with
  | str y =>
    by_cases hz : y.length ≤ sizeLine
    · simp only [lenW, if_pos hz] at e
      cases e
      cases rx.str_
      exact ⟨_, _, rfl, ⟨hz, rfl⟩, q _ H S .refl .int⟩
    · simp only [lenW, if_neg hz] at e
      cases e
  | lst l =>
    obtain ⟨a, vs, rfl, h, z, r⟩ := rx.lst_
    cases e
    exact ⟨_, _, rfl, .inl ⟨vs, .inl (.inl h), rfl⟩, q _ H S .refl (by rw [r.length]; exact .int)⟩
  | tup l =>
    obtain ⟨a, vs, rfl, h, z, r⟩ := rx.tup_
    cases e
    exact ⟨_, _, rfl, .inr ⟨vs, h.sq, rfl⟩, q _ H S .refl (by rw [r.length]; exact .int)⟩
  | _ => cases e
def absW : W → Option W
  | .int i => some (.int (if i < 0 then -i else i))
  | _ => none
theorem cw_abs : CW1 cl X (.builtin "abs") absW := by
  refine ⟨_, call_abs, fun {G ρ σ H wx x w Q} S rx e q => ?_⟩
  cases wx with
  | int i => cases e; exact ⟨i, by rw [rx.int_], q _ H S .refl .int⟩
  | _ => cases e
def intW : W → Option W
  | .int i => some (.int i)
  | .bl b => some (.int (if b then 1 else 0))
  | _ => none
theorem cw_int : CW1 cl X (.type "int") intW := by
  refine ⟨_, call_int1, fun {G ρ σ H wx x w Q} S rx e q => ?_⟩
  cases wx with
  | int i => cases e; exact .inl ⟨i, by rw [rx.int_], q _ H S .refl .int⟩
  | bl b => cases e; exact .inr ⟨b, by rw [rx.bl_], q _ H S .refl .int⟩
  | _ => cases e
def tupleW (w : W) : Option W := (items w).map .tup
theorem cw_tuple : CW1 cl X (.type "tuple") tupleW := by
  refine ⟨_, call_tuple_of, fun {G ρ σ H wx x w Q} S rx e q => ?_⟩
  cases wx with
  | tup l =>
    obtain ⟨a, vs, rfl, h, z, r⟩ := rx.tup_
    cases e
    exact ⟨a, vs, rfl, .inr ⟨h.sq, q _ H S .refl (.tup h z r)⟩⟩
  | lst l =>
    obtain ⟨a, vs, rfl, h, z, r⟩ := rx.lst_
    cases e
    refine ⟨a, vs, rfl, .inl ⟨.inl (.inl h), fun p n => ?_⟩⟩
    have g := upd_grow (o := .tup vs) n
    have k := (Keep.of g : Keep G.dl H _)
    exact q _ _ (S.grow g) k (.tup (.inl ⟨upd_same, S.fresh n⟩) z (r.keep (S.kp k)))
  | _ => cases e
theorem cw_list : CW1F cl X (.type "list") items := by
  refine ⟨_, call_list_of, fun {G ρ σ H wx x w Q} S rx e q => ?_⟩
  obtain ⟨a, vs, rfl, h, r, z⟩ := items_ok rx e
  refine ⟨a, vs, rfl, h.symm, fun p n => ?_⟩
  have g := upd_grow (o := .lst vs) n
  have k := (Keep.of g : Keep G.dl H _)
  exact q p vs _ (S.grow g) k n upd_same (S.fresh n) (r.keep (S.kpNew n)) z
def sumW : W → Option W
  | .lst l => (asInts l).map fun ns => .int ns.sum
  | _ => none
theorem map_some_inv {α β : Type} {o : Option α} {f : α → β} {b : β} (h : o.map f = some b) : ∃ a, o = some a ∧ f a = b := by
  cases o with
  | none => cases h
  | some a => exact ⟨a, rfl, Option.some.inj h⟩
theorem cw_sum (hc : X.calm = true) : CW1 cl X (.builtin "sum") sumW := by
  refine ⟨_, cr_sum hc, fun {G ρ σ H wx x w Q} S rx e q => ?_⟩
  cases wx with
  | lst l =>
    obtain ⟨a, vs, rfl, h, z, r⟩ := rx.lst_
    obtain ⟨ns, h1, rfl⟩ := map_some_inv e
    cases asInts_ok r h1
    exact ⟨a, ns, rfl, .inl (.inl h), q _ H S .refl .int⟩
  | _ => cases e
def anyW : W → Option W
  | .lst l => (asBools l).map fun ns => .bl (ns.any id)
  | _ => none
def allW : W → Option W
  | .lst l => (asBools l).map fun ns => .bl (ns.all id)
  | _ => none
theorem cw_any (hc : X.calm = true) : CW1 cl X (.builtin "any") anyW := by
  refine ⟨_, cr_any hc, fun {G ρ σ H wx x w Q} S rx e q => ?_⟩
  cases wx with
  | lst l =>
    obtain ⟨a, vs, rfl, h, z, r⟩ := rx.lst_
    obtain ⟨ns, h1, rfl⟩ := map_some_inv e
    cases asBools_ok r h1
    exact ⟨a, ns, rfl, .inl (.inl h), q _ H S .refl .bl⟩
  | _ => cases e
theorem cw_all (hc : X.calm = true) : CW1 cl X (.builtin "all") allW := by
  refine ⟨_, cr_all hc, fun {G ρ σ H wx x w Q} S rx e q => ?_⟩
  cases wx with
  | lst l =>
    obtain ⟨a, vs, rfl, h, z, r⟩ := rx.lst_
    obtain ⟨ns, h1, rfl⟩ := map_some_inv e
    cases asBools_ok r h1
    exact ⟨a, ns, rfl, .inl (.inl h), q _ H S .refl .bl⟩
  | _ => cases e
def maxI : List Int → Int
  | [] => 0
  | [x] => x
  | x :: y :: r => max x (maxI (y :: r))
theorem maxI_is : ∀ (l : List Int), l ≠ [] → maxI l ∈ l ∧ ∀ y ∈ l, y ≤ maxI l
  | [], h => (h rfl).elim
  | [x], _ => ⟨by simp [maxI], by simp [maxI]⟩
  | x :: y :: r, _ => by
    have ih := maxI_is (y :: r) (by simp)
    have em : maxI (x :: y :: r) = max x (maxI (y :: r)) := rfl
    rw [em]
    refine ⟨?_, fun z hz => ?_⟩
    · by_cases h : x ≤ maxI (y :: r)
      · rw [Int.max_eq_right h]; exact List.mem_cons_of_mem _ ih.1
      · rw [Int.max_eq_left (by omega)]; exact List.mem_cons_self
    · rcases List.mem_cons.mp hz with rfl | hz
      · omega
      · have := ih.2 z hz; omega
def maxW : W → Option W
  | .lst l => (asInts l).bind fun ns => if ns = [] then none else some (.int (maxI ns))
  | _ => none
theorem cw_max (hc : X.calm = true) : CW1 cl X (.builtin "max") maxW := by
  refine ⟨_, cr_max hc, fun {G ρ σ H wx x w Q} S rx e q => ?_⟩
  cases wx with
  | lst l =>
    obtain ⟨a, vs, rfl, h, z, r⟩ := rx.lst_
    cases h1 : asInts l with
    | none => simp [maxW, h1] at e
    | some ns =>
      by_cases hn : ns = []
      · simp [maxW, h1, hn] at e
      · simp only [maxW, h1, Option.bind_some, if_neg hn] at e
        cases e
        cases asInts_ok r h1
        refine ⟨a, ns, rfl, .inl (.inl h), by cases ns <;> simp_all, fun m hm hy => ?_⟩
        obtain ⟨g1, g2⟩ := maxI_is ns hn
        have : m = maxI ns := Int.le_antisymm (g2 m hm) (hy _ g1)
        subst this
        exact q _ H S .refl .int
  | _ => cases e
def max2W : W → W → Option W
  | .int i, .int j => some (.int (if j > i then j else i))
  | _, _ => none
def min2W : W → W → Option W
  | .int i, .int j => some (.int (if j < i then j else i))
  | _, _ => none
theorem cw_max2 (hc : X.calm = true) : CW2 cl X (.builtin "max") max2W := by
  refine ⟨_, call_max2 hc, fun {G ρ σ H wx wy x y w Q} S rx ry e q => ?_⟩
  cases wx with
  | int i => cases wy with
    | int j => cases e; exact ⟨i, j, by rw [rx.int_, ry.int_], q _ H S .refl .int⟩
    | _ => cases e
  | _ => cases e
theorem cw_min2 (hc : X.calm = true) : CW2 cl X (.builtin "min") min2W := by
  refine ⟨_, call_min2 hc, fun {G ρ σ H wx wy x y w Q} S rx ry e q => ?_⟩
  cases wx with
  | int i => cases wy with
    | int j => cases e; exact ⟨i, j, by rw [rx.int_, ry.int_], q _ H S .refl .int⟩
    | _ => cases e
  | _ => cases e
def sortI (ns : List Int) : List Int := ns.mergeSort (fun a b => decide (a ≤ b))
theorem sortI_perm (ns : List Int) : (sortI ns).Perm ns := List.mergeSort_perm _ _
theorem sortI_sorted (ns : List Int) : (sortI ns).Pairwise (· ≤ ·) := by
  have h := List.pairwise_mergeSort (le := fun a b : Int => decide (a ≤ b)) (fun a b c h1 h2 => by simp at *; omega) (fun a b => by simp; omega) ns
  exact h.imp (by intro a b h; simpa using h)
theorem sorted_one {l l' : List Int} (p : l.Perm l') (h : l.Pairwise (· ≤ ·)) (h' : l'.Pairwise (· ≤ ·)) : l = l' :=
  List.Perm.eq_of_pairwise (fun a b _ _ h1 h2 => Int.le_antisymm h1 h2) h h' p --'
def sortedW : W → Option (List W)
  | .lst l => (asInts l).map fun ns => (sortI ns).map W.int
  | _ => none
theorem cw_sorted : CW1F cl X (.builtin "sorted") sortedW := by
  refine ⟨_, cr_sortedI, fun {G ρ σ H wx x w Q} S rx e q => ?_⟩
  cases wx with
  | lst l =>
    obtain ⟨a, vs, rfl, h, z, r⟩ := rx.lst_
    obtain ⟨ns, h1, rfl⟩ := map_some_inv e
    cases asInts_ok r h1
    refine ⟨a, ns, rfl, .inl (.inl h), fun ns' p hp hs n => ?_⟩
    cases sorted_one (hp.trans (sortI_perm ns).symm) hs (sortI_sorted ns)
    have g := upd_grow (o := .lst ((sortI ns).map V.int)) n
    have k := (Keep.of g : Keep G.dl H _)
    refine q p _ _ (S.grow g) k n upd_same (S.fresh n) (reps_ints _) ?_
    rw [List.length_map, (sortI_perm ns).length_eq]
    simpa using z
  | _ => cases e
def strIW : W → Option W
  | .int i => if i.natAbs.log2 < 1920 then some (.str (toString i)) else none
  | .str a => some (.str a)
  | _ => none
theorem cw_str : CW1 cl X (.type "str") strIW := by
  refine ⟨fun xs H Q => (∃ i : Int, xs = [.int i] ∧ i.natAbs.log2 < 1920 ∧ Q (.str (toString i)) H) ∨ ∃ a, xs = [.str a] ∧ Q (.str a) H, fun pins s σ H xs us Q I rx q => q.elim (call_str_int pins s σ H xs us Q I rx) (SkE.call_str_str pins s σ H xs us Q I rx), fun {G ρ σ H wx x w Q} S rx e q => ?_⟩
  cases wx with
  | int i =>
    by_cases hz : i.natAbs.log2 < 1920
    · simp only [strIW, if_pos hz] at e
      cases e
      exact .inl ⟨i, by rw [rx.int_], hz, q _ H S .refl .str⟩
    · simp only [strIW, if_neg hz] at e
      cases e
  | str i => cases e; exact .inr ⟨i, by rw [rx.str_], q _ H S .refl .str⟩
  | _ => cases e
end
end Sh


namespace Sh
open PySem PySem.Spec PyProof.Rows L2
inductive Fl where
  | next (ρ : List Sl) | ret (w : W) | brk (ρ : List Sl) | cont (ρ : List Sl) | exc (e : Exn) (ρ : List Sl)
def M.elim {α β : Type} (m : M α) (k : α → M β) (h : Exn → M β) : M β :=
  ⟨fun Q E => m.run (fun a => (k a).run Q E) (fun e => (h e).run Q E), fun h1 h2 q => m.mono (fun a => (k a).mono h1 h2) (fun e => (h e).mono h1 h2) q⟩
@[simp] theorem elim_run {α β : Type} (m : M α) (k : α → M β) (h : Exn → M β) (Q E) : (m.elim k h).run Q E = m.run (fun a => (k a).run Q E) (fun e => (h e).run Q E) := rfl
@[simp] theorem elim_pure {α β : Type} (a : α) (k : α → M β) (h : Exn → M β) : ((pure a : M α).elim k h) = k a := rfl
@[simp] theorem elim_Mpure {α β : Type} (a : α) (k : α → M β) (h : Exn → M β) : ((M.pure a : M α).elim k h) = k a := rfl
@[simp] theorem elim_throw {α β : Type} (e : Exn) (k : α → M β) (h : Exn → M β) : ((M.throw e : M α).elim k h) = h e := rfl
@[simp] theorem elim_bad {α β : Type} (k : α → M β) (h : Exn → M β) : ((M.bad : M α).elim k h) = M.bad := rfl
def Gd.to (G : Gd) (oa : Nat → Option Addr) : Gd := { G with oa := oa }
section
variable (K : PySem.W.Frag) (cl : Cl)
structure RetOk (G : Gd) (H : Hp) (w : W) (v : V) : Prop where
  keep : Keep G.dl G.H0 H
  deal : dealInv G.dl H
  rep : Rep K cl G.Av0 G.dl H w v
def okS (G : Gd) (H : Hp) (D : Ends) (Wx : WX) : Fl → Prop
  | .next ρ' => ∀ oa σ' H', SR K cl (G.to oa) ρ' σ' H' → Kp G.Av (G.to oa).Av H H' → D.nx σ' H'
  | .brk ρ' => ∀ oa σ' H', SR K cl (G.to oa) ρ' σ' H' → Kp G.Av (G.to oa).Av H H' → D.bk σ' H'
  | .cont ρ' => ∀ oa σ' H', SR K cl (G.to oa) ρ' σ' H' → Kp G.Av (G.to oa).Av H H' → D.ct σ' H'
  | .ret w => ∀ v H', RetOk K cl G H' w v → D.rt v H'
  | .exc e ρ' => ∀ oa c d σ' H', SR K cl (G.to oa) ρ' σ' H' → Kp G.Av (G.to oa).Av H H' → XRep K cl (G.to oa).Av G.dl H' e c d → Wx c d σ' H'
def tIS (Wx : WX) (g : List Sl → M Fl) : TS := fun D σ H => ∃ G ρ, SR K cl G ρ σ H ∧ (g ρ).run (okS K cl G H D Wx) (fun _ => False)
end
def PSi (cl : Cl) (Wx : WX) (X : Cx) (st : Stmt) (g : List Sl → M Fl) : Prop := PS X st (tIS X.K cl Wx g)
def PSsi (cl : Cl) (Wx : WX) (X : Cx) (st : List Stmt) (g : List Sl → M Fl) : Prop := PSs X st (tIS X.K cl Wx g)
section
variable {K : PySem.W.Frag} {cl : Cl} {G : Gd} {ρ ρ' : List Sl} {σ : L2.St} {H H1 H' : Hp} {D : Ends} {Wx : WX}
theorem okS_of {oa : Nat → Option Addr} (k : Kp G.Av (G.to oa).Av H H1) {fl : Fl} (q : okS K cl G H D Wx fl) : okS K cl (G.to oa) H1 D Wx fl := by
  cases fl with
  | next ρ' => exact fun oa' σ' H' S k' => q oa' σ' H' S (k.trans k')
  | brk ρ' => exact fun oa' σ' H' S k' => q oa' σ' H' S (k.trans k')
  | cont ρ' => exact fun oa' σ' H' S k' => q oa' σ' H' S (k.trans k')
  | ret w => exact fun v H' r => q v H' ⟨r.keep, r.deal, r.rep⟩
  | exc e ρ' => exact fun oa' c d σ' H' S k' x => q oa' c d σ' H' S (k.trans k') x
theorem exE_of_okS {e : Exn} (q : okS K cl G H D Wx (.exc e ρ)) : exE K cl G ρ σ H Wx e := fun c d H' S' k x => q G.oa c d σ H' S' ⟨fun a o n e => k a o e (notAv_notDl S' n), fun _ _ z _ => z⟩ x
theorem SR.kp' (S : SR K cl G ρ σ H') (k : Keep G.dl H H') : Kp G.Av G.Av H H' := ⟨fun a o n e => k a o e (notAv_notDl S n), fun _ _ z _ => z⟩
theorem SR.setV {i : Nat} {w : W} {v : V} (S : SR K cl G ρ σ H) (r : Rep K cl G.Av G.dl H w v) :
    SR K cl (G.to fun j => if j = i then none else G.oa j) (ρ.set i (.v w)) (σ.set i (some v)) H ∧ Kp G.Av (G.to fun j => if j = i then none else G.oa j).Av H H := by
  have sub : ∀ a, (G.to fun j => if j = i then none else G.oa j).Av a → G.Av a := fun a h => by
    rcases h with h | ⟨j, h⟩
    · exact .inl h
    · by_cases e : j = i
      · simp [Gd.to, e] at h
      · simp only [Gd.to, if_neg e] at h
        exact .inr ⟨j, h⟩
  have kp : Kp G.Av (G.to fun j => if j = i then none else G.oa j).Av H H := ⟨fun _ _ _ e => e, fun a _ z _ => sub a z⟩
  have oaj : ∀ {j a}, j ≠ i → G.oa j = some a → (G.to fun j => if j = i then none else G.oa j).oa j = some a := fun hj e => by simp [Gd.to, hj, e]
  have oai : ∀ {j a}, (G.to fun j => if j = i then none else G.oa j).oa j = some a → G.oa j = some a := fun {j a} h => by
    by_cases e : j = i
    · simp [Gd.to, e] at h
    · simpa [Gd.to, e] using h
  refine ⟨⟨by simp [S.len], fun j w' e => ?_, fun j ws e => ?_, fun j c ns ws e => ?_, fun j a h => ?_, fun j k a h1 h2 => S.inj j k a (oai h1) (oai h2), fun j a h => S.new j a (oai h), S.tmpN, fun j a h => S.tmpO j a (oai h), S.keep, fun a h => S.trk a (sub a h), S.trk0, S.dlA, S.deal, (S.xcp.set).same kp⟩, kp⟩
  · by_cases hj : i = j
    · subst hj
      by_cases hl : i < ρ.length
      · rw [List.getElem?_set_self hl] at e
        cases e
        exact ⟨v, List.getElem?_set_self (by rw [S.len]; exact hl), r.keep kp⟩
      · rw [List.getElem?_eq_none (by simpa using hl)] at e
        cases e
    · rw [List.getElem?_set_ne hj] at e ⊢
      obtain ⟨v', h1, h2⟩ := S.v j w' e
      exact ⟨v', h1, h2.keep kp⟩
  · by_cases hj : i = j
    · subst hj
      by_cases hl : i < ρ.length
      · rw [List.getElem?_set_self hl] at e
        cases e
      · rw [List.getElem?_eq_none (by simpa using hl)] at e
        cases e
    · rw [List.getElem?_set_ne hj] at e ⊢
      obtain ⟨a, vs, h1, h2, h3, h4, h5⟩ := S.acc j ws e
      exact ⟨a, vs, oaj (Ne.symm hj) h1, h2, h3, h4.keep kp, h5⟩
  · by_cases hj : i = j
    · subst hj
      by_cases hl : i < ρ.length
      · rw [List.getElem?_set_self hl] at e
        cases e
      · rw [List.getElem?_eq_none (by simpa using hl)] at e
        cases e
    · rw [List.getElem?_set_ne hj] at e ⊢
      obtain ⟨a, dx, fs, h0, h1, h2, h3, h4, h5⟩ := S.obj j c ns ws e
      exact ⟨a, dx, fs, h0, oaj (Ne.symm hj) h1, h2, h3, h4, h5.keep kp⟩
  · have hj : i ≠ j := fun e => by subst e; simp [Gd.to] at h
    rw [List.getElem?_set_ne hj]
    exact S.oaI j a (oai h)
theorem SR.setAcc {i : Nat} {ws : List W} {a : Addr} {vs : List V} (S : SR K cl G ρ σ H) (S' : SR K cl G ρ σ H') (k : Keep G.dl H H') (n : H a = none) (e : H' a = some (.lst vs)) (na : ¬ G.Av a)
    (r : Reps K cl (fun b => G.Av b ∨ b = a) G.dl H' ws vs) (z : vs.length ≤ sizeLine) (hi : i < ρ.length) :
    SR K cl (G.to fun j => if j = i then some a else G.oa j) (ρ.set i (.acc ws)) (σ.set i (some (.ref a))) H' ∧ Kp G.Av (G.to fun j => if j = i then some a else G.oa j).Av H H' := by
  have sub : ∀ b, (G.to fun j => if j = i then some a else G.oa j).Av b → G.Av b ∨ b = a := fun b h => by
    rcases h with h | ⟨j, h⟩
    · exact .inl (.inl h)
    · by_cases e : j = i
      · simp [Gd.to, e] at h; exact .inr h.symm
      · simp only [Gd.to, if_neg e] at h
        exact .inl (.inr ⟨j, h⟩)
  have kp : Kp G.Av (G.to fun j => if j = i then some a else G.oa j).Av H H' := ⟨fun b o nb e => k b o e (notAv_notDl S nb), fun b o y e' => (sub b y).elim id fun q => by subst q; rw [n] at e'; cases e'⟩
  have oaj : ∀ {j b}, j ≠ i → G.oa j = some b → (G.to fun j => if j = i then some a else G.oa j).oa j = some b := fun hj e => by simp [Gd.to, hj, e]
  have oai : ∀ {j b}, (G.to fun j => if j = i then some a else G.oa j).oa j = some b → (j = i ∧ b = a) ∨ (j ≠ i ∧ G.oa j = some b) := fun {j b} h => by
    by_cases e : j = i
    · simp [Gd.to, e] at h; exact .inl ⟨e, h.symm⟩
    · exact .inr ⟨e, by simpa [Gd.to, e] using h⟩
  have nd : ¬ isDl G.dl a := notAv_notDl S na
  have h0 : G.H0 a = none := by
    cases q : G.H0 a with
    | none => rfl
    | some o => rw [S.keep a o q nd] at n; cases n
  refine ⟨⟨by simp [S.len], fun j w' e => ?_, fun j ws e => ?_, fun j c ns ws e => ?_, fun j b h => ?_, fun j l b h1 h2 => ?_, fun j b h => ?_, S.tmpN, fun j b h => ?_, S'.keep, fun b h => ?_, S.trk0, S.dlA, S'.deal, (S.xcp.set).same kp⟩, kp⟩
  · by_cases hj : i = j
    · subst hj
      rw [List.getElem?_set_self hi] at e
      cases e
    · rw [List.getElem?_set_ne hj] at e ⊢
      obtain ⟨v', h1, h2⟩ := S.v j w' e
      exact ⟨v', h1, h2.keep kp⟩
  · by_cases hj : i = j
    · subst hj
      rw [List.getElem?_set_self hi] at e
      cases e
      exact ⟨a, vs, by simp [Gd.to], List.getElem?_set_self (by rw [S.len]; exact hi), by assumption, r.keep ⟨fun _ _ _ e => e, fun b _ y _ => sub b y⟩, z⟩
    · rw [List.getElem?_set_ne hj] at e ⊢
      obtain ⟨b, vs', h1, h2, h3, h4, h5⟩ := S.acc j _ e
      exact ⟨b, vs', oaj (Ne.symm hj) h1, h2, k b _ h3 (S.noDl h1), h4.keep kp, h5⟩
  · by_cases hj : i = j
    · subst hj
      rw [List.getElem?_set_self hi] at e
      cases e
    · rw [List.getElem?_set_ne hj] at e ⊢
      obtain ⟨b, dx, fs, h0, h1, h2, h3, h4, h5⟩ := S.obj j c ns _ e
      exact ⟨b, dx, fs, h0, oaj (Ne.symm hj) h1, h2, k b _ h3 (S.noDl h1), h4, h5.keep kp⟩
  · rcases oai h with ⟨e1, e2⟩ | ⟨e1, e2⟩
    · subst e1; rw [List.getElem?_set_self hi]; rfl
    · rw [List.getElem?_set_ne (Ne.symm e1)]; exact S.oaI j b e2
  · rcases oai h1 with ⟨e1, e2⟩ | ⟨e1, e2⟩ <;> rcases oai h2 with ⟨e3, e4⟩ | ⟨e3, e4⟩
    · rw [e1, e3]
    · subst e2; exact (na (.inr ⟨l, e4⟩)).elim
    · subst e4; exact (na (.inr ⟨j, e2⟩)).elim
    · exact S.inj j l b e2 e4
  · rcases oai h with ⟨_, e2⟩ | ⟨_, e2⟩
    · subst e2; exact h0
    · exact S.new j b e2
  · rcases oai h with ⟨_, e2⟩ | ⟨_, e2⟩
    · subst e2; exact fun y => na (.inl (.inr y))
    · exact S.tmpO j b e2
  · rcases sub b h with h | h
    · exact S'.trk b h
    · subst h; exact ⟨_, by assumption⟩
theorem SR.chgAcc {i : Nat} {ws ws' : List W} {a : Addr} {vs : List V} (S : SR K cl G ρ σ H) (e : ρ[i]? = some (.acc ws)) (ho : G.oa i = some a) (r : Reps K cl G.Av G.dl H ws' vs) (z : vs.length ≤ sizeLine) :
    SR K cl G (ρ.set i (.acc ws')) σ (upd H a (.lst vs)) ∧ Kp G.Av G.Av H (upd H a (.lst vs)) := by
  have hA : G.Av a := .inr ⟨i, ho⟩
  have kp : Kp G.Av G.Av H (upd H a (.lst vs)) := ⟨fun b o n e => by rw [upd_ne (fun q => n (by rw [q]; exact hA))]; exact e, fun _ _ z _ => z⟩
  have nd := S.noDl ho
  have hi : i < ρ.length := (List.getElem?_eq_some_iff.mp e).1
  refine ⟨⟨by simp [S.len], fun j w' e' => ?_, fun j ws2 e' => ?_, fun j c ns ws2 e' => ?_, fun j b h => ?_, S.inj, S.new, S.tmpN, S.tmpO, fun b o q n => ?_, fun b h => ?_, S.trk0, S.dlA, fun d g q => ?_, (S.xcp.setR).same kp⟩, kp⟩
  · by_cases hj : i = j
    · subst hj
      rw [List.getElem?_set_self hi] at e'
      cases e'
    · rw [List.getElem?_set_ne hj] at e'
      obtain ⟨v', h1, h2⟩ := S.v j w' e'
      exact ⟨v', h1, h2.keep kp⟩
  · by_cases hj : i = j
    · subst hj
      rw [List.getElem?_set_self hi] at e'
      cases e'
      obtain ⟨b, _, h1, h2, _⟩ := S.acc i ws e
      rw [ho] at h1
      cases h1
      exact ⟨a, vs, ho, h2, upd_same, r.keep kp, z⟩
    · rw [List.getElem?_set_ne hj] at e'
      obtain ⟨b, vs', h1, h2, h3, h4, h5⟩ := S.acc j _ e'
      refine ⟨b, vs', h1, h2, ?_, h4.keep kp, h5⟩
      rw [upd_ne (fun q => hj (S.inj i j a ho (by rw [← q]; exact h1)))]
      exact h3
  · by_cases hj : i = j
    · subst hj
      rw [List.getElem?_set_self hi] at e'
      cases e'
    · rw [List.getElem?_set_ne hj] at e'
      obtain ⟨b, dx, fs, h0, h1, h2, h3, h4, h5⟩ := S.obj j c ns _ e'
      refine ⟨b, dx, fs, h0, h1, h2, ?_, h4, h5.keep kp⟩
      rw [upd_ne (fun q => hj (S.inj i j a ho (by rw [← q]; exact h1)))]
      exact h3
  · by_cases hj : i = j
    · subst hj; rw [List.getElem?_set_self hi]; rfl
    · rw [List.getElem?_set_ne hj]; exact S.oaI j b h
  · rw [upd_ne (fun y => by subst y; rw [S.new i _ ho] at q; cases q)]
    exact S.keep b o q n
  · by_cases y : b = a
    · subst y; exact ⟨_, upd_same⟩
    · obtain ⟨o, q⟩ := S.trk b h
      exact ⟨o, by rw [upd_ne y]; exact q⟩
  · obtain ⟨n, gs, m, h1, h2, h3⟩ := S.deal d g q
    refine ⟨n, gs, m, ?_, ?_, h3⟩
    · rw [upd_ne (fun y => nd ⟨(d, g), q, .inl y.symm⟩)]; exact h1
    · rw [upd_ne (fun y => nd ⟨(d, g), q, .inr y.symm⟩)]; exact h2
end
end Sh


namespace Sh
open PySem PySem.Spec PyProof.Rows L2
section
variable {X : Cx} {cl : Cl} {Wx : WX} {e a b c : Expr} {es : List Expr} {st : Stmt} {rest body body2 : List Stmt} {f fa fb : List Sl → M W} {fs : List Sl → M (List W)} {g g1 g2 : List Sl → M Fl} {t : List Sl → M Bool} {pos p p2 : Pos} {x : Str}
def sq (g1 g2 : List Sl → M Fl) (ρ : List Sl) : M Fl := g1 ρ >>= fun fl => match fl with
  | .next ρ' => g2 ρ'
  | x => pure x
def nx (ρ : List Sl) : M Fl := pure (.next ρ)
theorem SR.to_ {K : PySem.W.Frag} {G : Gd} {ρ : List Sl} {σ : L2.St} {H : Hp} (S : SR K cl G ρ σ H) : SR K cl (G.to G.oa) ρ σ H := S
theorem pssi_nil : PSsi cl Wx X [] nx := ⟨fun pins s σ H D I ⟨G, ρ, S, q⟩ => pss_nil.run pins s σ H D I (q G.oa σ H S .refl)⟩
theorem sq_ok {K : PySem.W.Frag} {G : Gd} {ρ : List Sl} {σ : L2.St} {H : Hp} {D : Ends} (S : SR K cl G ρ σ H) (q : (sq g1 g2 ρ).run (okS K cl G H D Wx) (fun _ => False)) : tIS K cl Wx g1 { D with nx := tIS K cl Wx g2 D } σ H := by
  refine ⟨G, ρ, S, (g1 ρ).mono (fun fl q => ?_) (fun _ z => z) q⟩
  cases fl with
  | next ρ' => exact fun oa σ' H' S' k => ⟨G.to oa, ρ', S', (g2 ρ').mono (fun fl q => okS_of k q) (fun _ z => z) q⟩
  | ret w => exact q
  | brk ρ' => exact q
  | cont ρ' => exact q
  | exc e ρ' => exact q
theorem pssi_cons (h1 : PSi cl Wx X st g1) (h2 : PSsi cl Wx X rest g2) : PSsi cl Wx X (st :: rest) (sq g1 g2) := ⟨fun pins s σ H D I ⟨G, ρ, S, q⟩ => (pss_cons h1 h2).run pins s σ H D I (sq_ok S q)⟩
theorem pssi_one (h1 : PSi cl Wx X st g1) : PSsi cl Wx X [st] g1 := pss_one h1
def exN (ρ : List Sl) (e : Exn) : M Fl := pure (.exc e ρ)
theorem psi_pass : PSi cl Wx X (.Pass pos) nx := ⟨fun pins s σ H D I ⟨G, ρ, S, q⟩ => ps_pass.run pins s σ H D I (q G.oa σ H S .refl)⟩
def brkS (ρ : List Sl) : M Fl := pure (.brk ρ)
def contS (ρ : List Sl) : M Fl := pure (.cont ρ)
theorem psi_break : PSi cl Wx X (.Break pos) brkS := ⟨fun pins s σ H D I ⟨G, ρ, S, q⟩ => ps_break.run pins s σ H D I (q G.oa σ H S .refl)⟩
theorem psi_cont : PSi cl Wx X (.Continue pos) contS := ⟨fun pins s σ H D I ⟨G, ρ, S, q⟩ => ps_continue.run pins s σ H D I (q G.oa σ H S .refl)⟩
def drp (f : List Sl → M W) (ρ : List Sl) : M Fl := (f ρ).elim (fun _ => pure (.next ρ)) (exN ρ)
theorem psi_expr (he : PEi cl Wx X e f) (hs : swapsWith e none pos.line X.env = pure false := by rfl) : PSi cl Wx X (.Expr e pos) (drp f) := ⟨fun pins s σ H D I ⟨G, ρ, S, q⟩ => (ps_expr he hs).run pins s σ H D I
  ⟨G, ρ, S, (f ρ).mono (fun w q v H' S' k r => q G.oa σ H' S' (S'.kp' k)) (fun e q => exE_of_okS (D := D) q) q⟩⟩
def rtS (f : List Sl → M W) (ρ : List Sl) : M Fl := (f ρ).elim (fun w => pure (.ret w)) (exN ρ)
theorem RepB.ret {K : PySem.W.Frag} {G : Gd} {ρ : List Sl} {σ : L2.St} {H : Hp} {w : W} {v : V} (S : SR K cl G ρ σ H) (r : RepB K cl G H w v) : RetOk K cl G H w v := by
  refine ⟨S.keep, S.deal, ?_⟩
  have kp : Kp G.Av G.Av0 H H := ⟨fun _ _ _ e => e, fun _ _ z _ => .inl (.inl z)⟩
  rcases r with r | ⟨ws, a, vs, rfl, rfl, h, r, z, n⟩
  · exact r.keep kp
  · exact .lst ⟨h, n⟩ z (r.keep kp)
theorem psi_ret (he : PEb cl Wx X e f) : PSi cl Wx X (.Return (some e) pos) (rtS f) := ⟨fun pins s σ H D I ⟨G, ρ, S, q⟩ => (ps_ret he).run pins s σ H D I
  ⟨G, ρ, S, (f ρ).mono (fun w q v H' S' k r => q v H' (r.ret S')) (fun e q => exE_of_okS (D := D) q) q⟩⟩
def rtN (ρ : List Sl) : M Fl := pure (.ret .non)
theorem psi_retN : PSi cl Wx X (.Return none pos) rtN := ⟨fun pins s σ H D I ⟨G, ρ, S, q⟩ => ps_retN.run pins s σ H D I (q .non H ⟨S.keep, S.deal, .non⟩)⟩
def ifS (t : List Sl → M Bool) (g1 g2 : List Sl → M Fl) (ρ : List Sl) : M Fl := (t ρ).elim (fun c => if c = true then g1 ρ else g2 ρ) (exN ρ)
theorem psi_if (hc : PTi cl Wx X c t) (ha : PSsi cl Wx X body g1) (hb : PSsi cl Wx X body2 g2) : PSi cl Wx X (.If c body body2 pos) (ifS t g1 g2) := by
  refine ⟨fun pins s σ H D I ⟨G, ρ, S, q⟩ => (ps_if hc ha hb).run pins s σ H D I ⟨G, ρ, S, (t ρ).mono (fun c q H' S' k => ?_) (fun e q => exE_of_okS (D := D) q) q⟩⟩
  cases c with
  | true => exact ⟨G, ρ, S', (g1 ρ).mono (fun fl q => okS_of (oa := G.oa) (S'.kp' k) q) (fun _ z => z) q⟩
  | false => exact ⟨G, ρ, S', (g2 ρ).mono (fun fl q => okS_of (oa := G.oa) (S'.kp' k) q) (fun _ z => z) q⟩
def Only (vs : List Nat) (σ σ' : L2.St) : Prop := ∀ us : List Nat, (∀ i ∈ vs, i ∈ us) → L2.wipe σ' us = L2.wipe σ us
theorem wipe_get (σ : L2.St) : ∀ (us : List Nat) (j : Nat), (L2.wipe σ us)[j]? = if j ∈ us ∧ j < σ.length then some none else σ[j]?
  | [], j => by simp [L2.wipe]
  | u :: us, j => by
    have ih := wipe_get σ us j
    unfold L2.wipe
    by_cases hu : u = j
    · subst hu
      by_cases hl : u < σ.length
      · rw [List.getElem?_set_self (by rw [L2.wipe_length]; exact hl), if_pos ⟨List.mem_cons_self, hl⟩]
      · rw [List.getElem?_eq_none (by rw [List.length_set, L2.wipe_length]; omega), if_neg (fun h => hl h.2), List.getElem?_eq_none (by omega)]
    · rw [List.getElem?_set_ne hu, ih]
      simp [Ne.symm hu]
theorem only_set {i : Nat} {σ : L2.St} {o : Option V} : Only [i] σ (σ.set i o) := fun us h => by
  refine List.ext_getElem? fun j => ?_
  rw [wipe_get, wipe_get, List.length_set]
  by_cases hj : i = j
  · subst hj
    have hm := h i (by simp)
    by_cases hl : i < σ.length
    · rw [if_pos ⟨hm, hl⟩, if_pos ⟨hm, hl⟩]
    · rw [if_neg (fun z => hl z.2), if_neg (fun z => hl z.2), List.getElem?_eq_none (by rw [List.length_set]; omega), List.getElem?_eq_none (by omega)]
  · rw [List.getElem?_set_ne hj]
theorem Only.refl {vs : List Nat} {σ : L2.St} : Only vs σ σ := fun _ _ => rfl
theorem Only.trans {vs vs' : List Nat} {σ σ1 σ2 : L2.St} (a : Only vs σ σ1) (b : Only vs' σ1 σ2) : Only (vs ++ vs') σ σ2 := fun us h => (b us fun i hi => h i (List.mem_append_right _ hi)).trans (a us fun i hi => h i (List.mem_append_left _ hi))
structure Res (vs : List Nat) (oa oa' : Nat → Option Addr) : Prop where
  old : ∀ i a, oa' i = some a → oa i = some a
  rest : ∀ i a, oa i = some a → i ∉ vs → oa' i = some a
theorem Res.refl {vs : List Nat} {oa : Nat → Option Addr} : Res vs oa oa := ⟨fun _ _ e => e, fun _ _ e _ => e⟩
theorem Res.trans {vs vs' : List Nat} {oa oa1 oa2 : Nat → Option Addr} (x : Res vs oa oa1) (y : Res vs' oa1 oa2) : Res (vs ++ vs') oa oa2 :=
  ⟨fun i a e => x.old i a (y.old i a e), fun i a e n => y.rest i a (x.rest i a e fun h => n (List.mem_append_left _ h)) fun h => n (List.mem_append_right _ h)⟩
theorem res_set {i : Nat} {oa : Nat → Option Addr} : Res [i] oa (fun j => if j = i then none else oa j) :=
  ⟨fun j a e => by by_cases h : j = i <;> simp [h] at e; exact e, fun j a e n => by simp at n; simp [n, e]⟩
def tIG (K : PySem.W.Frag) (cl : Cl) (vs : List Nat) (t : W → List Sl → Option (List Sl)) : TG := fun v σ H Q => ∃ G ρ w ρ', SR K cl G ρ σ H ∧ Rep K cl G.Av G.dl H w v ∧ t w ρ = some ρ' ∧ ∀ oa σ', SR K cl (G.to oa) ρ' σ' H → Kp G.Av (G.to oa).Av H H → Only vs σ σ' → Res vs G.oa oa → Q σ' H
def tIGs (K : PySem.W.Frag) (cl : Cl) (vs : List Nat) (t : List W → List Sl → Option (List Sl)) : TGs := fun us σ H Q => ∃ G ρ ws ρ', SR K cl G ρ σ H ∧ Reps K cl G.Av G.dl H ws us ∧ t ws ρ = some ρ' ∧ ∀ oa σ', SR K cl (G.to oa) ρ' σ' H → Kp G.Av (G.to oa).Av H H → Only vs σ σ' → Res vs G.oa oa → Q σ' H
def PGi (cl : Cl) (X : Cx) (vs : List Nat) (tg : Expr) (t : W → List Sl → Option (List Sl)) : Prop := PG X tg (tIG X.K cl vs t)
def PGsi (cl : Cl) (X : Cx) (vs : List Nat) (tg : List Expr) (t : List W → List Sl → Option (List Sl)) : Prop := PGs X tg (tIGs X.K cl vs t)
def toN (i : Nat) (w : W) (ρ : List Sl) : Option (List Sl) := some (ρ.set i (.v w))
theorem pgi_name (i : Nat) {x : Str} (hN : X.N.Nodup) (hi : X.N[i]? = some x := by rfl) (hx : Loc X.env.scope x := by first | exact Or.inl rfl | exact Or.inr rfl) (hf : X.fn x = true ∨ X.env.scope.names.lookup x = some .local := by first | exact .inl rfl | exact .inr rfl | assumption) : PGi cl X [i] (.Name x pos) (toN i) := by
  refine ⟨fun pins s σ H v u Q I ru ⟨G, ρ, w, ρ', S, r, e, q⟩ => (pg_name hN hi hx hf).run pins s σ H v u Q I ru ?_⟩
  cases e
  obtain ⟨S1, k1⟩ := S.setV (i := i) r
  exact q _ _ S1 k1 only_set res_set
def tsNil : List W → List Sl → Option (List Sl)
  | [], ρ => some ρ
  | _ :: _, _ => none
def tsCons (t : W → List Sl → Option (List Sl)) (u : List W → List Sl → Option (List Sl)) : List W → List Sl → Option (List Sl)
  | [], _ => none
  | w :: ws, ρ => (t w ρ).bind (u ws)
variable {tg : Expr} {tgs : List Expr} {vs vs1 vs2 : List Nat} {tt : W → List Sl → Option (List Sl)} {ts : List W → List Sl → Option (List Sl)}
theorem pgsi_nil : PGsi cl X [] [] tsNil := by
  refine ⟨fun pins s σ H vs us Q I ru ⟨G, ρ, ws, ρ', S, r, e, q⟩ => pgs_nil.run pins s σ H vs us Q I ru ?_⟩
  cases r with
  | nil => cases e; exact ⟨rfl, q G.oa σ S .refl .refl .refl⟩
  | cons _ _ => cases e
theorem pgsi_cons (h1 : PGi cl X vs1 tg tt) (h2 : PGsi cl X vs2 tgs ts) (h : (assignEach (tg :: tgs) X.env).map (·.2) = assign tg X.env :: (assignEach tgs X.env).map (·.2) := by rfl) : PGsi cl X (vs1 ++ vs2) (tg :: tgs) (tsCons tt ts) := by
  refine ⟨fun pins s σ H vs us Q I ru ⟨G, ρ, ws, ρ', S, r, e, q⟩ => (pgs_cons h1 h2 h).run pins s σ H vs us Q I ru ?_⟩
  cases r with
  | nil => cases e
  | @cons w v ws vs r1 r2 =>
    cases e1 : tt w ρ with
    | none => simp [tsCons, e1] at e
    | some ρ1 =>
      have e : ts ws ρ1 = some ρ' := by simpa [tsCons, e1] using e
      exact ⟨_, _, rfl, G, ρ, w, ρ1, S, r1, e1, fun oa σ' S' k' o' r' => ⟨G.to oa, ρ1, ws, ρ', S', r2.keep k', e, fun oa2 σ2 S2 k2 o2 r3 => q oa2 σ2 S2 (k'.trans k2) (o'.trans o2) (r'.trans r3)⟩⟩
def toT (u : List W → List Sl → Option (List Sl)) : W → List Sl → Option (List Sl)
  | .tup l, ρ => u l ρ
  | _, _ => none
def Takes_ (n : Nat) (ts : List W → List Sl → Option (List Sl)) : Prop := ∀ ws ρ ρ', ts ws ρ = some ρ' → ws.length = n
theorem takes_nil : Takes_ 0 tsNil := fun ws ρ ρ' h => by cases ws with | nil => rfl | cons _ _ => cases h
theorem takes_cons {n : Nat} (h : Takes_ n ts) : Takes_ (n + 1) (tsCons tt ts) := fun ws ρ ρ' e => by
  cases ws with
  | nil => cases e
  | cons w ws =>
    cases e1 : tt w ρ with
    | none => simp [tsCons, e1] at e
    | some ρ1 =>
      have e : ts ws ρ1 = some ρ' := by simpa [tsCons, e1] using e
      rw [List.length_cons, h ws ρ1 ρ' e]
theorem pgi_tup {k : Nat} (hl : Takes_ tgs.length ts) (hne : PG X (.Tuple tgs k pos) (gTup X.K tgs.length (tIGs X.K cl vs ts))) : PGi cl X vs (.Tuple tgs k pos) (toT ts) := by
  refine ⟨fun pins s σ H v u Q I ru ⟨G, ρ, w, ρ', S, r, e, q⟩ => hne.run pins s σ H v u Q I ru ?_⟩
  cases w with
  | tup l =>
    obtain ⟨a, vs, rfl, h1, z, r⟩ := r.tup_
    exact ⟨a, vs, rfl, h1.sq, by rw [← r.length]; exact hl l ρ ρ' e, G, ρ, l, ρ', S, r, e, q⟩
  | _ => cases e
def asg (f : List Sl → M W) (t : W → List Sl → Option (List Sl)) (ρ : List Sl) : M Fl := (f ρ).elim (fun w => M.ofO (t w ρ) >>= fun ρ' => pure (.next ρ')) (exN ρ)
theorem psi_asg (he : PEi cl Wx X e f) (hg : PGi cl X vs tg tt) (hs : swapsWithSole [tg] e pos.line X.env = pure false := by rfl) (hw : swappedStores [tg] e X.env = pure none := by rfl)
    (h1 : (assignEach [tg] X.env).map (·.2) = [assign tg X.env] := by rfl) : PSi cl Wx X (.Assign [tg] e pos) (asg f tt) := by
  refine ⟨fun pins s σ H D I ⟨G, ρ, S, q⟩ => (ps_asg he hg hs hw h1).run pins s σ H D I ⟨G, ρ, S, (f ρ).mono (fun w q v H' S' k r => ?_) (fun e q => exE_of_okS (D := D) q) q⟩⟩
  obtain ⟨ρ', e, q⟩ := ofO_run q
  exact ⟨G, ρ, w, ρ', S', r, e, fun oa σ' S2 k2 _ _ => q oa σ' H' S2 ((S'.kp' k).trans k2)⟩
def asgF (f : List Sl → M (List W)) (i : Nat) (ρ : List Sl) : M Fl := (f ρ).elim (fun l => if i < ρ.length then pure (.next (ρ.set i (.acc l))) else M.bad) (exN ρ)
theorem psi_asgF {ff : List Sl → M (List W)} (i : Nat) {x : Str} {px : Pos} (he : PEf cl Wx X e ff) (hN : X.N.Nodup) (hi : X.N[i]? = some x := by rfl) (hx : Loc X.env.scope x := by first | exact Or.inl rfl | exact Or.inr rfl) (hf : X.fn x = true ∨ X.env.scope.names.lookup x = some .local := by first | exact .inl rfl | exact .inr rfl | assumption)
    (hs : swapsWithSole [.Name x px] e pos.line X.env = pure false := by rfl) (hw : swappedStores [.Name x px] e X.env = pure none := by rfl)
    (h1 : (assignEach [.Name x px] X.env).map (·.2) = [assign (.Name x px) X.env] := by rfl) : PSi cl Wx X (.Assign [.Name x px] e pos) (asgF ff i) := by
  refine ⟨fun pins s σ H D I ⟨G, ρ, S, q⟩ => (ps_asg he (pg_name hN hi hx hf) hs hw h1).run pins s σ H D I ⟨G, ρ, S, (ff ρ).mono (fun w q a vs H' S' k n h na r z => ?_) (fun e q => exE_of_okS (D := D) q) q⟩⟩
  obtain ⟨hl, q⟩ := ite_run q
  obtain ⟨S2, k2⟩ := S.setAcc (i := i) S' k n h na r z hl
  exact q _ _ _ S2 k2
def par2 (i j : Nat) (fs : List Sl → M (List W)) (ρ : List Sl) : M Fl := (fs ρ).elim (fun ws => match ws with | [w, u] => pure (.next ((ρ.set i (.v w)).set j (.v u))) | _ => M.bad) (exN ρ)
theorem psi_par (i j : Nat) {x y : Str} {px py pt : Pos} {kt k2 pt2} (hc : X.calm = true) (hN : X.N.Nodup) (ha : PAi cl Wx X [a, b] fs) (hi : X.N[i]? = some x := by rfl) (hj : X.N[j]? = some y := by rfl) (hij : i ≠ j := by decide)
    (hx : X.env.scope.names.lookup x = some .local := by rfl) (hy : X.env.scope.names.lookup y = some .local := by rfl)
    (hw : swappedStores [.Tuple [.Name x px, .Name y py] kt pt] (.Tuple [a, b] k2 pt2) X.env = pure (some [x, y]) := by rfl)
    (hs : swapsWithSole [.Tuple [.Name x px, .Name y py] kt pt] (.Tuple [a, b] k2 pt2) pos.line X.env = pure false := by rfl) :
    PSi cl Wx X (.Assign [.Tuple [.Name x px, .Name y py] kt pt] (.Tuple [a, b] k2 pt2) pos) (par2 i j fs) := by
  refine ⟨fun pins s σ H D I ⟨G, ρ, S, q⟩ => (ps_par hc hN hi hj hij hx hy ha hw hs).run pins s σ H D I ⟨G, ρ, S, (fs ρ).mono (fun ws q vs H' S' k r => ?_) (fun e q => exE_of_okS (D := D) q) q⟩⟩
  match ws, r, q with
  | [w, u], .cons r1 (.cons r2 .nil), q =>
    obtain ⟨S1, k1⟩ := S'.setV (i := i) r1
    obtain ⟨S2, k2⟩ := S1.setV (i := j) (r2.keep k1)
    exact ⟨_, _, rfl, q _ _ _ S2 ((S'.kp' k).trans (k1.trans k2))⟩
  | [], _, q => exact q.elim
  | [_], _, q => exact q.elim
  | _ :: _ :: _ :: _, _, q => exact q.elim
def augI (i : Nat) (g : W → W → Option W) (f : List Sl → M W) (ρ : List Sl) : M Fl := (gv i ρ >>= fun x => f ρ >>= fun y => M.ofO (g x y)).elim (fun w => pure (.next (ρ.set i (.v w)))) (exN ρ)
theorem psi_augAdd (i : Nat) {x : Str} {pos' : Pos} (hN : X.N.Nodup) (he : PEi cl Wx X e f) (hi : X.N[i]? = some x := by rfl) (hx : Loc X.env.scope x := by first | exact Or.inl rfl | exact Or.inr rfl) (hf : X.fn x = true ∨ X.env.scope.names.lookup x = some .local := by first | exact .inl rfl | exact .inr rfl | assumption) :
    PSi cl Wx X (.AugAssign (.Name x pos') .Add e pos) (augI i addI f) := by
  refine ⟨fun pins s σ H D I ⟨G, ρ, S, q⟩ => (ps_aug hN hi hx he ip_add hf).run pins s σ H D I ?_⟩
  obtain ⟨w, ew, q⟩ := gv_run q
  obtain ⟨v, h1, h2⟩ := S.v i w ew
  refine ⟨v, h1, G, ρ, S, (f ρ).mono (fun wy q y H' S' k r => ?_) (fun e q => exE_of_okS (D := D) q) q⟩
  obtain ⟨z, ez, q⟩ := ofO_run q
  obtain ⟨i', j', rfl, rfl, _, rfl⟩ := int2_some ez
  refine ⟨i', j', h2.int_, r.int_, ?_⟩
  obtain ⟨S1, k1⟩ := S'.setV (i := i) (w := .int (i' + j')) .int
  exact q _ _ _ S1 ((S'.kp' k).trans k1)
def appS (i : Nat) (f : List Sl → M W) (ρ : List Sl) : M Fl := match ρ[i]? with
  | some (.acc l) => (f ρ).elim (fun w => if l.length < sizeLine then pure (.next (ρ.set i (.acc (l ++ [w])))) else M.bad) (exN ρ)
  | _ => M.bad
theorem acc_run {i : Nat} {ρ : List Sl} {β : Type} {k : List W → M β} {Q E} (h : (match ρ[i]? with | some (.acc l) => k l | _ => M.bad : M β).run Q E) : ∃ l, ρ[i]? = some (.acc l) ∧ (k l).run Q E := by
  split at h
  · rename_i l e; exact ⟨l, e, h⟩
  · exact h.elim
theorem psi_app (i : Nat) {x : Str} {px apos cpos : Pos} (he : PEi cl Wx X e f) (hN : X.N[i]? = some x := by rfl) (hv : Vis X.env.scope x := by first | exact Or.inl rfl | exact Or.inr (Or.inl rfl) | exact Or.inr (Or.inr rfl)) (hd : (x == ("__debug__" : Str)) = false := by decide)
    (hcd : (x == ("__classdict__" : Str)) = false := by decide) (hbase : attributeBase (.Name x px) "append" X.env (eval (.Name x px) X.env) = eval (.Name x px) X.env := by rfl)
    (hfew : ((backTo cpos (starEach [e] X.env)).all (fun x => !x.1) && (backToKw cpos (keywordEach [] X.env)).all (fun x => x.1.isSome)
      && decide ([e].length + ([] : List Keyword).length + (if ([] : List Keyword).isEmpty then 0 else 1) < 30)) = true := by rfl)
    (hline : (apos.endLine == cpos.line) = true := by rfl) (hs : starEach [e] X.env = (false, eval e X.env) :: starEach [] X.env := by rfl) (hplain : (backTo cpos (starEach [] X.env)).any (·.1) = false := by rfl)
    (hsw : swapsWith (.Call (.Attribute (.Name x px) "append" apos) [e] [] cpos) none pos.line X.env = pure false := by rfl) :
    PSi cl Wx X (.Expr (.Call (.Attribute (.Name x px) "append" apos) [e] [] cpos) pos) (appS i f) := by
  refine ⟨fun pins s σ H D I ⟨G, ρ, S, q⟩ => (ps_expr (pe_bm PySem.F.plainAttrs_list PySem.F.slot_list_append PySem.F.type_list_append mt_append (pe_var hN hv hd hcd) (pa_cons he pa_nil hs) hbase hfew hline hs hplain) hsw).run pins s σ H D I ?_⟩
  obtain ⟨l, el, q⟩ := acc_run q
  obtain ⟨a, vs, h1, h2, h3, h4, h5⟩ := S.acc i l el
  refine ⟨_, h2, .inl ⟨rfl, _, .inl (.inl h3)⟩, G, ρ, S, (f ρ).mono (fun w q v H' S' k r => ?_) (fun e q => exE_of_okS (D := D) q) q⟩
  obtain ⟨hl, q⟩ := ite_run q
  have h3' := k a _ h3 (S.noDl h1)
  have h4' := h4.keep (S.kp k)
  refine ⟨a, vs, v, rfl, rfl, h3', by rw [← h4.length]; exact hl, ?_⟩
  obtain ⟨S2, k2⟩ := S'.chgAcc (i := i) el h1 (h4'.append (.cons r .nil)) (by rw [List.length_append, ← h4.length]; exact hl)
  exact q _ _ _ S2 ((S'.kp' k).trans k2)
def extS (i : Nat) (f : List Sl → M W) (ρ : List Sl) : M Fl := match ρ[i]? with
  | some (.acc l) => (f ρ).elim (fun w => match w with | .lst l' => if l.length + l'.length ≤ sizeLine then pure (.next (ρ.set i (.acc (l ++ l')))) else M.bad | _ => M.bad) (exN ρ)
  | _ => M.bad
theorem psi_ext (i : Nat) {x : Str} {px apos cpos : Pos} (he : PEi cl Wx X e f) (hN : X.N[i]? = some x := by rfl) (hv : Vis X.env.scope x := by first | exact Or.inl rfl | exact Or.inr (Or.inl rfl) | exact Or.inr (Or.inr rfl)) (hd : (x == ("__debug__" : Str)) = false := by decide)
    (hcd : (x == ("__classdict__" : Str)) = false := by decide) (hbase : attributeBase (.Name x px) "extend" X.env (eval (.Name x px) X.env) = eval (.Name x px) X.env := by rfl)
    (hfew : ((backTo cpos (starEach [e] X.env)).all (fun x => !x.1) && (backToKw cpos (keywordEach [] X.env)).all (fun x => x.1.isSome)
      && decide ([e].length + ([] : List Keyword).length + (if ([] : List Keyword).isEmpty then 0 else 1) < 30)) = true := by rfl)
    (hline : (apos.endLine == cpos.line) = true := by rfl) (hs : starEach [e] X.env = (false, eval e X.env) :: starEach [] X.env := by rfl) (hplain : (backTo cpos (starEach [] X.env)).any (·.1) = false := by rfl)
    (hsw : swapsWith (.Call (.Attribute (.Name x px) "extend" apos) [e] [] cpos) none pos.line X.env = pure false := by rfl) :
    PSi cl Wx X (.Expr (.Call (.Attribute (.Name x px) "extend" apos) [e] [] cpos) pos) (extS i f) := by
  refine ⟨fun pins s σ H D I ⟨G, ρ, S, q⟩ => (ps_expr (pe_bm PySem.F.plainAttrs_list PySem.F.slot_list_extend PySem.F.type_list_extend mt_extend (pe_var hN hv hd hcd) (pa_cons he pa_nil hs) hbase hfew hline hs hplain) hsw).run pins s σ H D I ?_⟩
  obtain ⟨l, el, q⟩ := acc_run q
  obtain ⟨a, vs, h1, h2, h3, h4, h5⟩ := S.acc i l el
  refine ⟨_, h2, .inl ⟨rfl, _, .inl (.inl h3)⟩, G, ρ, S, (f ρ).mono (fun w q v H' S' k r => ?_) (fun e q => exE_of_okS (D := D) q) q⟩
  cases w with
  | lst l' =>
    obtain ⟨hl, q⟩ := ite_run q
    have h3' := k a _ h3 (S.noDl h1)
    have h4' := h4.keep (S.kp k)
    obtain ⟨b, zs, rfl, h6, h7, h8⟩ := r.lst_
    have hz : vs.length + zs.length ≤ sizeLine := by rw [← h4.length, ← h8.length]; exact hl
    refine ⟨a, b, vs, zs, rfl, rfl, h3', h6.1, hz, ?_⟩
    obtain ⟨S2, k2⟩ := S'.chgAcc (i := i) el h1 (h4'.append h8) (by rw [List.length_append]; exact hz)
    exact q _ _ _ S2 ((S'.kp' k).trans k2)
  | _ => exact q.elim
end
end Sh


namespace Sh
open PySem PySem.Spec PyProof.Rows L2
structure ItOk (K : PySem.W.Frag) (cl : Cl) (Av : Addr → Prop) (dl : Option (Addr × Addr)) (H : Hp) (J : It) (ws : List W) : Prop where
  go : ∀ i Av2 H2, Kp Av Av2 H H2 → i < ws.length → J.go i H2
  yld : ∀ i Av2 H2 x H3, Kp Av Av2 H H2 → (∀ a, Av2 a → ∃ o, H2 a = some o) → J.yld i H2 x H3 → i < ws.length → (∀ a o, H2 a = some o → H3 a = some o) ∧ ∃ w, ws[i]? = some w ∧ Rep K cl Av2 dl H3 w x
  stop : ∀ i Av2 H2, Kp Av Av2 H H2 → ws.length ≤ i → J.stop i H2
  len : ws.length ≤ sizeLine
def okI (K : PySem.W.Frag) (cl : Cl) (G : Gd) (ρ : List Sl) (σ : L2.St) (H : Hp) (R : It → Hp → Prop) (ws : List W) : Prop := ∀ J H', SR K cl G ρ σ H' → Keep G.dl H H' → ItOk K cl G.Av G.dl H' J ws → R J H'
def tII (K : PySem.W.Frag) (cl : Cl) (Wx : WX) (f : List Sl → M (List W)) : TI := fun σ H R => ∃ G ρ, SR K cl G ρ σ H ∧ (f ρ).run (okI K cl G ρ σ H R) (exE K cl G ρ σ H Wx)
def PIi (cl : Cl) (Wx : WX) (X : Cx) (tg iter : Expr) (f : List Sl → M (List W)) : Prop := PI X tg iter (tII X.K cl Wx f)
section
variable {K : PySem.W.Frag} {cl : Cl} {Av : Addr → Prop} {dl : Option (Addr × Addr)} {H : Hp} {ws us : List W} {vs zs : List V} {a b : Addr}
theorem Reps.lt {i : Nat} {v : V} (r : Reps K cl Av dl H ws vs) (e : vs[i]? = some v) : i < ws.length := by rw [r.length]; exact (List.getElem?_eq_some_iff.mp e).1
theorem itOk_list (h : LstAt Av H a vs) (r : Reps K cl Av dl H ws vs) (z : vs.length ≤ sizeLine) : ItOk K cl Av dl H (Itl K a) ws where
  go := fun i Av2 H2 k hi => by
    rw [r.length] at hi
    exact ⟨vs, vs[i], (h.keep k).sq, by simp [hi]⟩
  yld := fun i Av2 H2 x H3 k tr y hi => by
    obtain ⟨e, y⟩ := y
    subst e
    obtain ⟨w, h1, h2⟩ := (r.keep k).getV (y vs (h.keep k).sq)
    exact ⟨fun _ _ e => e, w, h1, h2⟩
  stop := fun i Av2 H2 k hi => ⟨vs, (h.keep k).sq, by rw [← r.length]; exact hi⟩
  len := by rw [r.length]; exact z
theorem itOk_tup (h : TupAt K Av H a vs) (r : Reps K cl Av dl H ws vs) (z : vs.length ≤ sizeLine) : ItOk K cl Av dl H (Itt K a) ws where
  go := fun i Av2 H2 k hi => by
    rw [r.length] at hi
    exact ⟨vs, vs[i], (h.keep k).sq, by simp [hi]⟩
  yld := fun i Av2 H2 x H3 k tr y hi => by
    obtain ⟨e, y⟩ := y
    subst e
    obtain ⟨w, h1, h2⟩ := (r.keep k).getV (y vs (h.keep k).sq)
    exact ⟨fun _ _ e => e, w, h1, h2⟩
  stop := fun i Av2 H2 k hi => ⟨vs, (h.keep k).sq, by rw [← r.length]; exact hi⟩
  len := by rw [r.length]; exact z
def rngW (lo : Int) (n : Nat) : List W := (List.range n).map fun i => .int (lo + (i : Nat))
theorem itOk_rng (lo : Int) (n : Nat) (z : n ≤ sizeLine) : ItOk K cl Av dl H (Itr lo n) (rngW lo n) where
  go := fun i _ _ _ hi => by
    show i < n
    simpa [rngW] using hi
  yld := fun i Av2 H2 x H3 k tr y hi => by
    obtain ⟨e, y⟩ := y
    subst e y
    have hi : i < n := by simpa [rngW] using hi
    exact ⟨fun _ _ e => e, .int (lo + i), by simp [rngW, hi], .int⟩
  stop := fun i _ _ _ hi => by
    show n ≤ i
    simpa [rngW] using hi
  len := by simpa [rngW] using z
theorem tup_new {Av2 : Addr → Prop} {H2 : Hp} {T : Addr} {xs : List V} {ws : List W} (tr : ∀ a, Av2 a → ∃ o, H2 a = some o) (n : H2 T = none) (r : Reps K cl Av2 dl H2 ws xs) (z : xs.length ≤ sizeLine) : Rep K cl Av2 dl (upd H2 T (.tup xs)) (.tup ws) (.ref T) :=
  .tup (.inl ⟨upd_same, fun y => by obtain ⟨o, q⟩ := tr T y; rw [n] at q; cases q⟩) z (r.keep ⟨fun b o _ e => upd_grow n b o e, fun _ _ y _ => y⟩)
theorem two_fit : 2 ≤ sizeLine := by rw [sizeLine_eq]; decide
def zipW : List W → List W → List W
  | x :: xs, y :: ys => .tup [x, y] :: zipW xs ys
  | _, _ => []
theorem zipW_get : ∀ (xs ys : List W) (i : Nat), (zipW xs ys)[i]? = (match xs[i]?, ys[i]? with | some x, some y => some (.tup [x, y]) | _, _ => none)
  | [], ys, i => by simp [zipW]
  | x :: xs, [], i => by cases i <;> simp [zipW]
  | x :: xs, y :: ys, 0 => by simp [zipW]
  | x :: xs, y :: ys, i + 1 => by simpa [zipW] using zipW_get xs ys i
theorem zipW_len : ∀ (xs ys : List W), (zipW xs ys).length = min xs.length ys.length
  | [], ys => by simp [zipW]
  | x :: xs, [] => by simp [zipW]
  | x :: xs, y :: ys => by simp only [zipW, List.length_cons, zipW_len xs ys]; omega
theorem itOk_zip (h : LstAt Av H a vs) (h' : LstAt Av H b zs) (r : Reps K cl Av dl H ws vs) (r' : Reps K cl Av dl H us zs) (z : vs.length ≤ sizeLine) : ItOk K cl Av dl H (Itz K a b) (zipW ws us) where
  go := fun i Av2 H2 k hi => by
    rw [zipW_len, r.length, r'.length] at hi
    exact ⟨vs, zs, vs[i]'(by omega), zs[i]'(by omega), (h.keep k).sq, (h'.keep k).sq, List.getElem?_eq_getElem (by omega), List.getElem?_eq_getElem (by omega)⟩
  yld := fun i Av2 H2 x H3 k tr y hi => by
    obtain ⟨T, x1, y1, rfl, n, rfl, e1, e2⟩ := y
    obtain ⟨w1, g1, g2⟩ := (r.keep k).getV (e1 vs (h.keep k).sq)
    obtain ⟨w2, g3, g4⟩ := (r'.keep k).getV (e2 zs (h'.keep k).sq)
    refine ⟨upd_grow n, .tup [w1, w2], by rw [zipW_get, g1, g3], tup_new tr n (.cons g2 (.cons g4 .nil)) two_fit⟩
  stop := fun i Av2 H2 k hi => by
    rw [zipW_len, r.length, r'.length] at hi
    exact ⟨vs, zs, (h.keep k).sq, (h'.keep k).sq, by omega⟩
  len := by rw [zipW_len, r.length, r'.length]; omega
theorem itOk_zipT (h : TupAt K Av H a vs) (h' : TupAt K Av H b zs) (r : Reps K cl Av dl H ws vs) (r' : Reps K cl Av dl H us zs) (z : vs.length ≤ sizeLine) : ItOk K cl Av dl H (RZ.ItzT K a b) (zipW ws us) where
  go := fun i Av2 H2 k hi => by
    rw [zipW_len, r.length, r'.length] at hi
    exact ⟨vs, zs, vs[i]'(by omega), zs[i]'(by omega), (h.keep k).sq, (h'.keep k).sq, List.getElem?_eq_getElem (by omega), List.getElem?_eq_getElem (by omega)⟩
  yld := fun i Av2 H2 x H3 k tr y hi => by
    obtain ⟨T, x1, y1, rfl, n, rfl, e1, e2⟩ := y
    obtain ⟨w1, g1, g2⟩ := (r.keep k).getV (e1 vs (h.keep k).sq)
    obtain ⟨w2, g3, g4⟩ := (r'.keep k).getV (e2 zs (h'.keep k).sq)
    refine ⟨upd_grow n, .tup [w1, w2], by rw [zipW_get, g1, g3], tup_new tr n (.cons g2 (.cons g4 .nil)) two_fit⟩
  stop := fun i Av2 H2 k hi => by
    rw [zipW_len, r.length, r'.length] at hi
    exact ⟨vs, zs, (h.keep k).sq, (h'.keep k).sq, by omega⟩
  len := by rw [zipW_len, r.length, r'.length]; omega
def enumW (l : List W) : List W := zipW (rngW 0 l.length) l
theorem itOk_enum (h : LstAt Av H a vs) (r : Reps K cl Av dl H ws vs) (z : vs.length ≤ sizeLine) : ItOk K cl Av dl H (Ite K a) (enumW ws) where
  go := fun i Av2 H2 k hi => by
    simp only [enumW, zipW_len, rngW, List.length_map, List.length_range, r.length] at hi
    exact ⟨vs, vs[i]'(by omega), (h.keep k).sq, List.getElem?_eq_getElem (by omega)⟩
  yld := fun i Av2 H2 x H3 k tr y hi => by
    obtain ⟨T, x1, rfl, n, rfl, e1⟩ := y
    obtain ⟨w1, g1, g2⟩ := (r.keep k).getV (e1 vs (h.keep k).sq)
    have hl := (r.keep k).lt (e1 vs (h.keep k).sq)
    refine ⟨upd_grow n, .tup [.int (i : Nat), w1], ?_, tup_new tr n (.cons .int (.cons g2 .nil)) two_fit⟩
    rw [enumW, zipW_get, g1]
    simp [rngW, hl]
  stop := fun i Av2 H2 k hi => by
    simp only [enumW, zipW_len, rngW, List.length_map, List.length_range, r.length] at hi
    exact ⟨vs, (h.keep k).sq, by omega⟩
  len := by simp only [enumW, zipW_len, rngW, List.length_map, List.length_range, r.length]; omega
end
section
variable {X : Cx} {cl : Cl} {Wx : WX} {e e2 tg it : Expr} {body : List Stmt} {f f2 : List Sl → M W} {g : List Sl → M Fl} {fs fi : List Sl → M (List W)} {t : List Sl → M Bool} {pos p : Pos} {tt : W → List Sl → Option (List Sl)} {vs : List Nat}
def iSeq (K : PySem.W.Frag) (tl : TE) : TI := fun σ H R => tl σ H fun x H1 => ∃ a, x = .ref a ∧ ((∃ xs, SqL K H1 a xs) ∧ R (Itl K a) H1 ∨ (∃ xs, SqT K H1 a xs) ∧ R (Itt K a) H1)
theorem walks_new {σ : L2.St} {H : Hp} {s : Shared} {pins : List (Addr × Obj)} (I : L2.Inv X pins σ H s) : ∀ b ∈ [s.heap.objs.size], FpOk X pins H b := fun b hb => by
  rcases List.mem_singleton.mp hb with rfl
  exact I.fpOk (Nat.le_refl _) (I.hok.fresh (Nat.le_refl _))
theorem pi_seqA {tl : TE} (hl : PE X e tl) : PI X tg e (iSeq X.K tl) := by
  refine ⟨fun pins s σ H R I h => thn (hl.run pins s σ H _ I h) ?_⟩
  rintro v s1 ⟨x, H1, I1, r1, a, rfl, ⟨⟨xs, hq⟩, q⟩ | ⟨⟨xs, hq⟩, q⟩⟩
  · cases r1
    obtain ⟨its, _, pl, _⟩ := I1.list hq
    exact wpAny_pyIter_list pl.isList ⟨_, [s1.heap.objs.size], _, _, H1, rfl, I1.kept (t' := s1.toks) (fun b o => Heap.get?_push_of_some _), turn_list a _, ⟨_, Heap.get?_push_size _ rfl, rfl, rfl⟩, walks_new I1, q⟩
  · cases r1
    obtain ⟨its, _, pt, _⟩ := I1.tuple hq
    exact wpAny_pyIter_tuple (show s1.heap.IsTuple a its.toArray from pt) ⟨_, [s1.heap.objs.size], _, _, H1, rfl, I1.kept (t' := s1.toks) (fun b o => Heap.get?_push_of_some _), turn_tuple a _, ⟨_, Heap.get?_push_size _ rfl, rfl, rfl⟩, walks_new I1, q⟩
def itS (f : List Sl → M W) (ρ : List Sl) : M (List W) := f ρ >>= fun w => M.ofO (items w)
theorem pii_seq (h : PEi cl Wx X e f) : PIi cl Wx X tg e (itS f) := by
  refine ⟨fun pins s σ H R I ⟨G, ρ, S, q⟩ => (pi_seqA h).run pins s σ H R I ⟨G, ρ, S, (f ρ).mono (fun w q v H' S' k r => ?_) (fun _ z => z) q⟩⟩
  obtain ⟨l, el, q⟩ := ofO_run q
  cases w with
  | lst l =>
    cases el
    obtain ⟨a, vs, rfl, h1, z, r⟩ := r.lst_
    exact ⟨a, rfl, .inl ⟨⟨vs, h1.sq⟩, q _ H' S' k (itOk_list h1 r z)⟩⟩
  | tup l =>
    cases el
    obtain ⟨a, vs, rfl, h1, z, r⟩ := r.tup_
    exact ⟨a, rfl, .inr ⟨⟨vs, h1.sq⟩, q _ H' S' k (itOk_tup h1 r z)⟩⟩
  | _ => cases el
def fits62 (j : Int) : Bool := decide (-(2 ^ 62) ≤ j ∧ j < 2 ^ 62)
def rng1 (f : List Sl → M W) (ρ : List Sl) : M (List W) := f ρ >>= fun w => match w with | .int j => if fits62 j = true ∧ j.toNat ≤ sizeLine then pure (rngW 0 j.toNat) else M.bad | _ => M.bad
theorem pii_range1 {p : Pos} (hg : Gl X "range") (hm : X.mg "range" = none) (h : PEi cl Wx X e f) (he : starEach [e] X.env = (false, eval e X.env) :: starEach [] X.env := by rfl) : PIi cl Wx X tg (.Call (.Name "range" p) [e] [] pos) (rng1 f) := by
  refine ⟨fun pins s σ H R I ⟨G, ρ, S, q⟩ => (pi_range1 hg hm (pa_cons h pa_nil he) he).run pins s σ H R I ⟨G, ρ, S, (f ρ).mono (fun w q v H' S' k r => ?_) (fun _ z => z) q⟩⟩
  cases w with
  | int j =>
    obtain ⟨hc, q⟩ := ite_run q
    have hz := hc.2
    have hc := of_decide_eq_true hc.1
    exact ⟨j, by rw [r.int_], hc.1, hc.2, q _ H' S' k (itOk_rng 0 j.toNat hz)⟩
  | _ => exact q.elim
def rng2 (f f2 : List Sl → M W) (ρ : List Sl) : M (List W) := f ρ >>= fun w => f2 ρ >>= fun u => match w, u with | .int i, .int j => if fits62 i = true ∧ fits62 j = true ∧ (j - i).toNat ≤ sizeLine then pure (rngW i (j - i).toNat) else M.bad | _, _ => M.bad
theorem pii_range2 {p : Pos} (hg : Gl X "range") (hm : X.mg "range" = none) (h : PEi cl Wx X e f) (h2 : PEi cl Wx X e2 f2) (he : starEach [e, e2] X.env = (false, eval e X.env) :: starEach [e2] X.env := by rfl) (he2 : starEach [e2] X.env = (false, eval e2 X.env) :: starEach [] X.env := by rfl)
    (hpl : (backTo pos (starEach [e2] X.env)).any (·.1) = false := by rfl) : PIi cl Wx X tg (.Call (.Name "range" p) [e, e2] [] pos) (rng2 f f2) := by
  refine ⟨fun pins s σ H R I ⟨G, ρ, S, q⟩ => (pi_range2 hg hm (pa_cons h (pa_cons h2 pa_nil he2) he) (by rw [he, he2]; rfl) he2).run pins s σ H R I ⟨G, ρ, S, (f ρ).mono (fun w q v H' S' k r => ?_) (fun _ z => z) q⟩⟩
  refine ⟨G, ρ, S', (f2 ρ).mono (fun w2 q v2 H2 S2 k2 r2 => ?_) (fun _ z => exE_of k z) q⟩
  cases w with
  | int i =>
    cases w2 with
    | int j =>
      obtain ⟨hc, q⟩ := ite_run q
      have hc1 := of_decide_eq_true hc.1
      have hc2 := of_decide_eq_true hc.2.1
      exact ⟨i, j, by rw [r.int_, r2.int_], ⟨hc1.1, hc1.2, hc2.1, hc2.2⟩, q _ H2 S2 (k.trans k2) (itOk_rng i (j - i).toNat hc.2.2)⟩
    | _ => exact q.elim
  | _ => exact q.elim
def forL (tt : W → List Sl → Option (List Sl)) (g : List Sl → M Fl) : List W → List Sl → M Fl
  | [], ρ => pure (.next ρ)
  | w :: ws, ρ => M.ofO (tt w ρ) >>= fun ρ1 => g ρ1 >>= fun fl => match fl with
    | .next ρ' => forL tt g ws ρ'
    | .cont ρ' => forL tt g ws ρ'
    | .brk ρ' => pure (.next ρ')
    | x => pure x
def forS (fi : List Sl → M (List W)) (tt : W → List Sl → Option (List Sl)) (g : List Sl → M Fl) (ρ : List Sl) : M Fl := (fi ρ).elim (fun ws => forL tt g ws ρ) (exN ρ)
theorem forL_ok {K : PySem.W.Frag} {G : Gd} {ρ : List Sl} {σ : L2.St} {H : Hp} {D : Ends} {J : It} {vs : List Nat} {ws : List W} (S : SR K cl G ρ σ H) (ok : ItOk K cl G.Av G.dl H J ws) (q : (forL tt g ws ρ).run (okS K cl G H D Wx) (fun _ => False)) :
    ∃ W : Nat → Nat → L2.St → Hp → Prop, (∃ m, W 0 m σ H) ∧ ∀ i m σ H, W i m σ H →
      (J.stop i H ∧ D.nx σ H) ∨ (J.go i H ∧ ∃ N : L2.St → Hp → Prop, (∀ σ' H', N σ' H' → ∃ m', m' < m ∧ W (i + 1) m' σ' H') ∧ ∀ x H', J.yld i H x H' → tIG K cl vs tt x σ H' fun σ2 H2 => tIS K cl Wx g { D with nx := N, ct := N, bk := D.nx } σ2 H2) := by
  refine ⟨fun i m σ1 H1 => m = ws.length - i ∧ i ≤ ws.length ∧ ∃ oa ρ1, SR K cl (G.to oa) ρ1 σ1 H1 ∧ Kp G.Av (G.to oa).Av H H1 ∧ (forL tt g (ws.drop i) ρ1).run (okS K cl (G.to oa) H1 D Wx) (fun _ => False),
    ⟨ws.length, by simp, Nat.zero_le _, G.oa, ρ, S, .refl, q⟩, ?_⟩
  rintro i m σ1 H1 ⟨rfl, hi, oa, ρ1, S1, k1, q1⟩
  by_cases hlt : i < ws.length
  · refine .inr ⟨ok.go i _ H1 k1 hlt, fun σ' H' => ∃ oa' ρ', SR K cl (G.to oa') ρ' σ' H' ∧ Kp G.Av (G.to oa').Av H H' ∧ (forL tt g (ws.drop (i + 1)) ρ').run (okS K cl (G.to oa') H' D Wx) (fun _ => False),
      fun σ' H' h => ⟨ws.length - (i + 1), by omega, rfl, hlt, h⟩, fun x H' y => ?_⟩
    obtain ⟨grow, w, ew, rw'⟩ := ok.yld i _ H1 x H' k1 S1.trk y hlt
    have ed : ws.drop i = w :: ws.drop (i + 1) := by
      obtain ⟨h1, h2⟩ := List.getElem?_eq_some_iff.mp ew
      rw [List.drop_eq_getElem_cons h1, h2]
    rw [ed] at q1
    obtain ⟨ρ2, e2, q2⟩ := ofO_run q1
    have S1' := S1.grow grow
    have kg : Kp (G.to oa).Av (G.to oa).Av H1 H' := ⟨fun a o _ e => grow a o e, fun _ _ z _ => z⟩
    refine ⟨G.to oa, ρ1, w, ρ2, S1', rw', e2, fun oa3 σ3 S3 k3 _ _ => ?_⟩
    have k13 : Kp (G.to oa).Av (G.to oa3).Av H1 H' := kg.trans k3
    refine ⟨G.to oa3, ρ2, S3, (g ρ2).mono (fun fl q => ?_) (fun _ z => z) q2⟩
    cases fl with
    | next ρ' => exact fun oa4 σ4 H4 S4 k4 => ⟨oa4, ρ', S4, k1.trans (k13.trans k4), (forL tt g (ws.drop (i + 1)) ρ').mono (fun fl z => okS_of (oa := oa4) (k13.trans k4) z) (fun _ z => z) q⟩
    | cont ρ' => exact fun oa4 σ4 H4 S4 k4 => ⟨oa4, ρ', S4, k1.trans (k13.trans k4), (forL tt g (ws.drop (i + 1)) ρ').mono (fun fl z => okS_of (oa := oa4) (k13.trans k4) z) (fun _ z => z) q⟩
    | brk ρ' => exact fun oa4 σ4 H4 S4 k4 => q oa4 σ4 H4 S4 (k13.trans k4)
    | ret w => exact fun v H5 r => q v H5 ⟨r.keep, r.deal, r.rep⟩
    | exc e ρ' => exact fun oa4 c d σ4 H4 S4 k4 => q oa4 c d σ4 H4 S4 (k13.trans k4)
  · have e : i = ws.length := by omega
    subst e
    refine .inl ⟨ok.stop _ _ H1 k1 (Nat.le_refl _), ?_⟩
    rw [List.drop_length] at q1
    exact q1 oa σ1 H1 S1 .refl
theorem psi_for (hp : PassesOwn (model X.prog X.w) X.A X.env X.xe) (hc : X.calm = true) (hi : PIi cl Wx X tg it fi) (hg : PGi cl X vs tg tt) (hb : PSsi cl Wx X body g)
    (hs : ∀ x, foldedSetIterable it X.env x = pure x := by intro _; rfl) : PSi cl Wx X (.For tg it body [] pos) (forS fi tt g) := by
  refine ⟨fun pins s σ H D I ⟨G, ρ, S, q⟩ => (ps_for hp hc hi hg hb hs).run pins s σ H D I ⟨G, ρ, S, (fi ρ).mono (fun ws q J H' S' k ok => ?_) (fun e q => exE_of_okS (D := D) q) q⟩⟩
  exact forL_ok S' ok ((forL tt g ws ρ).mono (fun fl z => okS_of (oa := G.oa) (S'.kp' k) z) (fun _ z => z) q)
def whl (t : List Sl → M Bool) (g : List Sl → M Fl) : Nat → List Sl → M Fl
  | 0, _ => M.bad
  | n + 1, ρ => (t ρ).elim (fun c => if c = true then g ρ >>= fun fl => match fl with
    | .next ρ' => whl t g n ρ'
    | .cont ρ' => whl t g n ρ'
    | .brk ρ' => pure (.next ρ')
    | x => pure x else pure (.next ρ)) (exN ρ)
theorem psi_while (n : Nat) (hp : PassesOwn (model X.prog X.w) X.A X.env X.xe) (hc : PTi cl Wx X e t) (hb : PSsi cl Wx X body g) : PSi cl Wx X (.While e body [] pos) (whl t g n) := by
  refine ⟨fun pins s σ H D I ⟨G, ρ, S, q⟩ => (ps_while hp hc hb).run pins s σ H D I ?_⟩
  refine ⟨fun m σ1 H1 => ∃ oa ρ1, SR X.K cl (G.to oa) ρ1 σ1 H1 ∧ Kp G.Av (G.to oa).Av H H1 ∧ (whl t g m ρ1).run (okS X.K cl (G.to oa) H1 D Wx) (fun _ => False), ⟨n, G.oa, ρ, S, .refl, q⟩, ?_⟩
  rintro m σ1 H1 ⟨oa, ρ1, S1, k1, q1⟩
  cases m with
  | zero => exact q1.elim
  | succ m =>
    refine ⟨G.to oa, ρ1, S1, (t ρ1).mono (fun c q H2 S2 k2 => ?_) (fun e q => exE_of_okS (D := D) q) q1⟩
    have k12 : Kp (G.to oa).Av (G.to oa).Av H1 H2 := S2.kp' k2
    cases c with
    | false => exact q oa σ1 H2 S2 k12
    | true =>
      refine ⟨fun σ' H' => ∃ oa' ρ', SR X.K cl (G.to oa') ρ' σ' H' ∧ Kp G.Av (G.to oa').Av H H' ∧ (whl t g m ρ').run (okS X.K cl (G.to oa') H' D Wx) (fun _ => False), fun σ' H' h => ⟨m, Nat.lt_succ_self _, h⟩, G.to oa, ρ1, S2, (g ρ1).mono (fun fl q => ?_) (fun _ z => z) q⟩
      cases fl with
      | next ρ' => exact fun oa4 σ4 H4 S4 k4 => ⟨oa4, ρ', S4, k1.trans (k12.trans k4), (whl t g m ρ').mono (fun fl z => okS_of (oa := oa4) (k12.trans k4) z) (fun _ z => z) q⟩
      | cont ρ' => exact fun oa4 σ4 H4 S4 k4 => ⟨oa4, ρ', S4, k1.trans (k12.trans k4), (whl t g m ρ').mono (fun fl z => okS_of (oa := oa4) (k12.trans k4) z) (fun _ z => z) q⟩
      | brk ρ' => exact fun oa4 σ4 H4 S4 k4 => q oa4 σ4 H4 S4 (k12.trans k4)
      | ret w => exact q
      | exc e ρ' => exact fun oa4 c d σ4 H4 S4 k4 => q oa4 c d σ4 H4 S4 (k12.trans k4)
end
end Sh


namespace Sh
open PySem PySem.Spec PyProof.Rows L2
section
variable {K : PySem.W.Frag} {cl : Cl} {G : Gd} {ρ : List Sl} {σ : L2.St} {H : Hp}
def Gd.mk_ (G : Gd) (D : Addr) : Gd := { G with tmp := D :: G.tmp }
theorem Gd.mk_Av {D b : Addr} : (G.mk_ D).Av b ↔ G.Av b ∨ b = D := by
  unfold Gd.Av Gd.mk_
  simp only [List.mem_cons]
  constructor
  · rintro ((h | h | h) | h)
    · exact .inl (.inl (.inl h))
    · exact .inr h
    · exact .inl (.inl (.inr h))
    · exact .inl (.inr h)
  · rintro (((h | h) | h) | h)
    · exact .inl (.inl h)
    · exact .inl (.inr (.inr h))
    · exact .inr h
    · exact .inl (.inr (.inl h))
theorem SR.addTmp {D : Addr} {o : HO} (S : SR K cl G ρ σ H) (n : H D = none) : SR K cl (G.mk_ D) ρ σ (upd H D o) ∧ Kp G.Av (G.mk_ D).Av H (upd H D o) := by
  have na := S.fresh n
  have kp : Kp G.Av (G.mk_ D).Av H (upd H D o) := ⟨fun b u _ e => upd_grow n b u e, fun b u z e => (Gd.mk_Av.mp z).elim id fun q => by subst q; rw [n] at e; cases e⟩
  refine ⟨⟨S.len, fun i w e => ?_, fun i ws e => ?_, fun i c ns ws e => ?_, S.oaI, S.inj, S.new, fun a ha => ?_, fun i a e ha => ?_, S.keep.trans (.of (upd_grow n)), fun b h => ?_, S.trk0, S.dlA, S.deal.grow (upd_grow n), S.xcp.same kp⟩, kp⟩
  · obtain ⟨v, h1, h2⟩ := S.v i w e
    exact ⟨v, h1, h2.keep kp⟩
  · obtain ⟨a, vs, h1, h2, h3, h4, h5⟩ := S.acc i ws e
    exact ⟨a, vs, h1, h2, upd_grow n _ _ h3, h4.keep kp, h5⟩
  · obtain ⟨a, dx, fs, h0, h1, h2, h3, h4, h5⟩ := S.obj i c ns ws e
    exact ⟨a, dx, fs, h0, h1, h2, upd_grow n _ _ h3, h4, h5.keep kp⟩
  · rcases List.mem_cons.mp ha with e | ha
    · subst e
      show G.H0 a = none
      cases q : G.H0 a with
      | none => rfl
      | some o => rw [S.keep a o q (notAv_notDl S na)] at n; cases n
    · exact S.tmpN a ha
  · rcases List.mem_cons.mp ha with e' | ha
    · subst e'; exact na (.inr ⟨i, e⟩)
    · exact S.tmpO i a e ha
  · rcases Gd.mk_Av.mp h with h | h
    · obtain ⟨o, q⟩ := S.trk b h
      exact ⟨o, upd_grow n _ _ q⟩
    · subst h; exact ⟨_, upd_same⟩
theorem SR.chgTmp {D : Addr} {o : HO} (S : SR K cl (G.mk_ D) ρ σ H) (nd : ¬ isDl G.dl D) : SR K cl (G.mk_ D) ρ σ (upd H D o) ∧ Kp (G.mk_ D).Av (G.mk_ D).Av H (upd H D o) := by
  have hD : (G.mk_ D).Av D := Gd.mk_Av.mpr (.inr rfl)
  have kp : Kp (G.mk_ D).Av (G.mk_ D).Av H (upd H D o) := ⟨fun b u n e => by rw [upd_ne (fun q => n (by rw [q]; exact hD))]; exact e, fun _ _ z _ => z⟩
  have ne : ∀ {i a}, (G.mk_ D).oa i = some a → a ≠ D := fun {i a} e q => S.tmpO i a e (by subst q; exact List.mem_cons_self)
  refine ⟨⟨S.len, fun i w e => ?_, fun i ws e => ?_, fun i c ns ws e => ?_, S.oaI, S.inj, S.new, S.tmpN, S.tmpO, fun b u q n => ?_, fun b h => ?_, S.trk0, S.dlA, fun d g q => ?_, S.xcp.same kp⟩, kp⟩
  · obtain ⟨v, h1, h2⟩ := S.v i w e
    exact ⟨v, h1, h2.keep kp⟩
  · obtain ⟨a, vs, h1, h2, h3, h4, h5⟩ := S.acc i ws e
    exact ⟨a, vs, h1, h2, by rw [upd_ne (ne h1)]; exact h3, h4.keep kp, h5⟩
  · obtain ⟨a, dx, fs, h0, h1, h2, h3, h4, h5⟩ := S.obj i c ns ws e
    exact ⟨a, dx, fs, h0, h1, h2, by rw [upd_ne (ne h1)]; exact h3, h4, h5.keep kp⟩
  · rw [upd_ne (fun y => by subst y; rw [S.tmpN _ List.mem_cons_self] at q; cases q)]
    exact S.keep b u q n
  · by_cases y : b = D
    · subst y; exact ⟨_, upd_same⟩
    · obtain ⟨u, q⟩ := S.trk b h
      exact ⟨u, by rw [upd_ne y]; exact q⟩
  · obtain ⟨n, gs, m, h1, h2, h3⟩ := S.deal d g q
    refine ⟨n, gs, m, ?_, ?_, h3⟩
    · rw [upd_ne (fun y => nd ⟨(d, g), q, .inl y.symm⟩)]; exact h1
    · rw [upd_ne (fun y => nd ⟨(d, g), q, .inr y.symm⟩)]; exact h2
def wipeS (ρ : List Sl) : List Nat → List Sl
  | [] => ρ
  | v :: vs => (wipeS ρ vs).set v .no
theorem SR.setNo (S : SR K cl G ρ σ H) (i : Nat) (hn : ownS ρ[i]? = false) : SR K cl G (ρ.set i .no) (σ.set i none) H := by
  refine ⟨by simp [S.len], fun j w e => ?_, fun j ws e => ?_, fun j c ns ws e => ?_, fun j a h => ?_, S.inj, S.new, S.tmpN, S.tmpO, S.keep, S.trk, S.trk0, S.dlA, S.deal, S.xcp.set⟩
  · by_cases hj : i = j
    · subst hj
      by_cases hl : i < ρ.length
      · rw [List.getElem?_set_self hl] at e; cases e
      · rw [List.getElem?_eq_none (by simpa using hl)] at e; cases e
    · rw [List.getElem?_set_ne hj] at e ⊢
      exact S.v j w e
  · by_cases hj : i = j
    · subst hj
      by_cases hl : i < ρ.length
      · rw [List.getElem?_set_self hl] at e; cases e
      · rw [List.getElem?_eq_none (by simpa using hl)] at e; cases e
    · rw [List.getElem?_set_ne hj] at e ⊢
      exact S.acc j ws e
  · by_cases hj : i = j
    · subst hj
      by_cases hl : i < ρ.length
      · rw [List.getElem?_set_self hl] at e; cases e
      · rw [List.getElem?_eq_none (by simpa using hl)] at e; cases e
    · rw [List.getElem?_set_ne hj] at e ⊢
      exact S.obj j c ns ws e
  · have hj : i ≠ j := fun e => by subst e; rw [S.oaI i a h] at hn; cases hn
    rw [List.getElem?_set_ne hj]
    exact S.oaI j a h
theorem wipeS_own : ∀ (vs : List Nat) (i : Nat), ownS ρ[i]? = false → ownS (wipeS ρ vs)[i]? = false
  | [], _, h => h
  | v :: vs, i, h => by
    unfold wipeS
    by_cases hj : v = i
    · subst hj
      by_cases hl : v < (wipeS ρ vs).length
      · rw [List.getElem?_set_self hl]; rfl
      · rw [List.getElem?_eq_none (by simpa using hl)]; rfl
    · rw [List.getElem?_set_ne hj]; exact wipeS_own vs i h
theorem SR.wipe (S : SR K cl G ρ σ H) : ∀ vs : List Nat, (∀ v ∈ vs, ownS ρ[v]? = false) → SR K cl G (wipeS ρ vs) (wipe σ vs) H
  | [], _ => S
  | v :: vs, h => (S.wipe vs fun u hu => h u (List.mem_cons_of_mem _ hu)).setNo v (wipeS_own vs v (h v List.mem_cons_self))
end
section
variable {X : Cx} {cl : Cl} {Wx : WX} {e e2 tg it elt : Expr} {ifs : List Expr} {f f2 fe : List Sl → M W} {fi : List Sl → M (List W)} {t : List Sl → M Bool} {pos p : Pos} {tt : W → List Sl → Option (List Sl)}
def noX {α : Type} (m : M α) : M α := m.elim pure (fun _ => M.bad)
@[simp] theorem noX_pure {α : Type} (a : α) : noX (pure a : M α) = pure a := rfl
@[simp] theorem noX_Mpure {α : Type} (a : α) : noX (M.pure a : M α) = pure a := rfl
def WF : WX := fun _ _ _ _ => False
theorem noX_ex {α : Type} {m : M α} {Q : α → Prop} {E E' : Exn → Prop} (h : (noX m).run Q E) : m.run Q E' := m.mono (fun _ z => z) (fun _ z => z.elim) h
def compL (tt : W → List Sl → Option (List Sl)) (t : List Sl → M Bool) (f : List Sl → M W) : List W → List Sl → M (List W)
  | [], _ => pure []
  | w :: ws, ρ => M.ofO (tt w ρ) >>= fun ρ1 => noX (t ρ1) >>= fun b => if b = true then noX (f ρ1) >>= fun y => compL tt t f ws ρ >>= fun r => pure (y :: r) else compL tt t f ws ρ
def compE (vs : List Nat) (fi : List Sl → M (List W)) (tt : W → List Sl → Option (List Sl)) (t : List Sl → M Bool) (f : List Sl → M W) (ρ : List Sl) : M (List W) := fi ρ >>= fun ws => if (vs.all fun v => !ownS ρ[v]?) = true then compL tt t f ws (wipeS ρ vs) else M.bad
def yesT (_ : List Sl) : M Bool := pure true
def PTsi (cl : Cl) (Wx : WX) (X : Cx) (es : List Expr) (f : List Sl → M Bool) : Prop := PTs X es (tIT X.K cl Wx f)
theorem ptsi_nil : PTsi cl Wx X [] yesT := ⟨fun pins s σ H Q I ⟨G, ρ, S, q⟩ => pts_nil.run pins s σ H Q I (q H S .refl)⟩
theorem ptsi_one (h : PTi cl Wx X e t) : PTsi cl Wx X [e] t := pts_one h
theorem SR.unTmp {K : PySem.W.Frag} {G : Gd} {ρ : List Sl} {σ : L2.St} {H H1 : Hp} (S : SR K cl G ρ σ H1) (k : Keep G.dl H1 H) (d : dealInv G.dl H) : SR K cl G ρ σ H := S.kept k d
theorem comp_ok {K : PySem.W.Frag} {G : Gd} {ρ : List Sl} {σ : L2.St} {H : Hp} {vs vs' : List Nat} {Q : VK} (hv : ∀ i ∈ vs', i ∈ vs) (S : SR K cl G ρ σ H) (q : (compE vs fi tt t fe ρ).run (okF K cl G ρ σ H Q) (exE K cl G ρ σ H Wx)) :
    tLc (tII K cl Wx fi) (tIG K cl vs' tt) (tIT K cl WF t) (tI K cl WF fe) vs σ H Q := by
  refine ⟨G, ρ, S, (fi ρ).mono (fun ws q J H1 S1 k1 ok D nD => ?_) (fun _ z => z) q⟩
  obtain ⟨hw, q⟩ := ite_run q
  have hw : ∀ v ∈ vs, ownS ρ[v]? = false := fun v hv => by
    have := List.all_eq_true.mp hw v hv
    simpa using this
  have nAv := S1.fresh nD
  have ndl := notAv_notDl S1 nAv
  have nD0 : H D = none := by
    cases e : H D with
    | none => rfl
    | some o => rw [k1 D o e ndl] at nD; cases nD
  have sub : ∀ b, (G.mk_ D).Av b → G.Av b ∨ b = D := fun b h => Gd.mk_Av.mp h
  refine ⟨fun i m Hi => m = ws.length - i ∧ i ≤ ws.length ∧ Keep G.dl H1 Hi ∧ SR K cl (G.mk_ D) (wipeS ρ vs) (L2.wipe σ vs) Hi ∧ Kp G.Av (G.mk_ D).Av H1 Hi ∧ ∃ acc done, Hi D = some (.lst acc) ∧ Reps K cl (G.mk_ D).Av G.dl Hi done acc ∧ acc.length ≤ i ∧
    (compL tt t fe (ws.drop i) (wipeS ρ vs)).run (fun r => okF K cl G ρ σ H Q (done ++ r)) (exE K cl G ρ σ H Wx), ⟨ws.length, by simp, Nat.zero_le _, .of (upd_grow nD), ((S1.wipe vs hw).addTmp nD).1, (S1.addTmp nD).2, [], [], upd_same, .nil, Nat.le_refl _, by simpa using q⟩, ?_⟩
  rintro i m Hi ⟨rfl, hi, ki, Si, kpi, acc, done, hD, hr, hl, q⟩
  have lz := ok.len
  by_cases hlt : i < ws.length
  · refine .inr ⟨ok.go i _ Hi kpi hlt, fun H' => i + 1 ≤ ws.length ∧ Keep G.dl H1 H' ∧ SR K cl (G.mk_ D) (wipeS ρ vs) (L2.wipe σ vs) H' ∧ Kp G.Av (G.mk_ D).Av H1 H' ∧ ∃ acc done, H' D = some (.lst acc) ∧ Reps K cl (G.mk_ D).Av G.dl H' done acc ∧ acc.length ≤ i + 1 ∧
      (compL tt t fe (ws.drop (i + 1)) (wipeS ρ vs)).run (fun r => okF K cl G ρ σ H Q (done ++ r)) (exE K cl G ρ σ H Wx), fun H' h => ⟨ws.length - (i + 1), by omega, rfl, h⟩, fun x H' y => ?_⟩
    obtain ⟨grow, w, ew, rw'⟩ := ok.yld i _ Hi x H' kpi Si.trk y hlt
    have ed : ws.drop i = w :: ws.drop (i + 1) := by
      obtain ⟨h1, h2⟩ := List.getElem?_eq_some_iff.mp ew
      rw [List.drop_eq_getElem_cons h1, h2]
    rw [ed] at q
    obtain ⟨ρ2, e2, q⟩ := ofO_run q
    have Si' := Si.grow grow
    have hr' : Reps K cl (G.mk_ D).Av G.dl H' done acc := hr.keep ⟨fun a o _ e => grow a o e, fun _ _ z _ => z⟩
    have ki' : Keep G.dl H1 H' := ki.trans (.of grow)
    have kpi' : Kp G.Av (G.mk_ D).Av H1 H' := kpi.trans ⟨fun a o _ e => grow a o e, fun _ _ z _ => z⟩
    have hD' := grow _ _ hD
    refine ⟨G.mk_ D, wipeS ρ vs, w, ρ2, Si', rw', e2, fun oa3 σ3 S3 k3 o3 r3 => ⟨?_, (G.mk_ D).to oa3, ρ2, S3, noX_ex (M.mono _ (fun b q H4 S4 k4 => ?_) (fun _ z => z) q)⟩⟩
    · have e1 := o3 vs hv
      rw [e1]
      refine List.ext_getElem? fun j => ?_
      rw [wipe_get, wipe_get, L2.wipe_length]
      by_cases h : j ∈ vs ∧ j < σ.length
      · rw [if_pos h, if_pos h]
      · rw [if_neg h]
    · have d4 : dealInv G.dl H4 := S4.deal
      have Sd4 : SR K cl (G.mk_ D) (wipeS ρ vs) (L2.wipe σ vs) H4 := Si'.kept k4 d4
      have ki4 := ki'.trans k4
      have kk4 : Kp (G.mk_ D).Av (G.mk_ D).Av H' H4 := Si'.kp k4
      have hD4 : H4 D = some (.lst acc) := k4 D _ hD' ndl
      cases b with
      | false => exact ⟨hlt, ki4, Sd4, kpi'.trans kk4, acc, done, hD4, hr'.keep kk4, by omega, q⟩
      | true =>
        refine ⟨(G.mk_ D).to oa3, ρ2, S4, noX_ex (M.mono _ (fun y q v H5 S5 k5 r5 => ?_) (fun _ z => z) q)⟩
        have Sd5 : SR K cl (G.mk_ D) (wipeS ρ vs) (L2.wipe σ vs) H5 := Sd4.kept k5 S5.deal
        have kk5 : Kp (G.mk_ D).Av (G.mk_ D).Av H4 H5 := Sd4.kp k5
        have hD5 : H5 D = some (.lst acc) := k5 D _ hD4 ndl
        have hr5 := (hr'.keep kk4).keep kk5
        obtain ⟨S6, k6⟩ := Sd5.chgTmp (o := .lst (acc ++ [v])) ndl
        have r5' : Rep K cl (G.mk_ D).Av G.dl H5 y v := by
          refine r5.keep (Av' := (G.mk_ D).Av) ⟨fun _ _ _ e => e, fun a o z e => ?_⟩
          rcases z with z | ⟨j, z⟩
          · exact .inl z
          · have nj : j ∉ vs' := fun hj => by
              have h1 := S1.oaI j a z
              rw [hw j (hv j hj)] at h1
              cases h1
            exact .inr ⟨j, r3.rest j a z nj⟩
        refine ⟨acc, hD5, by omega, hlt, fun a o e n => ?_, S6, (kpi'.trans (kk4.trans kk5)).trans k6, acc ++ [v], done ++ [y], upd_same, (hr5.append (.cons r5' .nil)).keep k6, by simp; omega, ?_⟩
        · have hne : a ≠ D := fun z => by subst z; rw [nD] at e; cases e
          rw [upd_ne hne]
          exact (ki4.trans k5) a o e n
        · refine M.mono _ (fun r q => ?_) (fun _ z => z) q
          simpa using q
  · have e : i = ws.length := by omega
    subst e
    refine .inl ⟨ok.stop _ _ Hi kpi (Nat.le_refl _), ?_⟩
    rw [List.drop_length] at q
    have q : okF K cl G ρ σ H Q (done ++ []) := q
    rw [List.append_nil] at q
    exact q D acc Hi (S1.kept ki Si.deal) (k1.trans ki) nD0 hD nAv (hr.keep ⟨fun _ _ _ e => e, fun b o z _ => Gd.mk_Av.mpr z⟩) (by omega)
end
end Sh


namespace Sh
open PySem PySem.Spec PyProof.Rows L2
section
variable {X : Cx} {cl : Cl} {Wx : WX} {e e2 tg it elt : Expr} {ifs elts : List Expr} {f f2 fe : List Sl → M W} {fi : List Sl → M (List W)} {t : List Sl → M Bool} {pos p spos : Pos} {tt : W → List Sl → Option (List Sl)} {vs' : List Nat} {scope : Scope} {own : List (Str × Nat)}
theorem pf_lc (hc : X.calm = true) (hN : X.N.Nodup) (hi : PIi cl Wx X tg it fi) (ok : BlkOk X.N X.env.scope scope own) (hv : ∀ i ∈ vs', i ∈ own.map (·.2))
    (hg : ∀ (s : Shared) (H : Hp) (C : Addr) (cs : List (Str × Addr)) (fp : List Addr), PGi cl (X.blk s H scope (compEnvC scope cs C X.env) fp) vs' tg tt) (ht : ∀ (s : Shared) (H : Hp) (C : Addr) (cs : List (Str × Addr)) (fp : List Addr), PTsi cl WF (X.blk s H scope (compEnvC scope cs C X.env) fp) ifs t)
    (he : ∀ (s : Shared) (H : Hp) (C : Addr) (cs : List (Str × Addr)) (fp : List Addr), PEi cl WF (X.blk s H scope (compEnvC scope cs C X.env) fp) elt fe) (hs : ∀ x, foldedSetIterable it X.env x = pure x := by intro _; rfl) :
    PEf cl Wx X (.ListComp elt [⟨tg, it, ifs, 0⟩] scope pos) (compE (own.map (·.2)) fi tt t fe) :=
  ⟨fun pins s σ H Q I ⟨G, ρ, S, q⟩ => (pe_lc (g := tIG X.K cl vs' tt) (tt := tIT X.K cl WF t) (te := tI X.K cl WF fe) hc hN hi ok hg ht he hs).run pins s σ H Q I (comp_ok hv S q)⟩
theorem psi_setLc (i : Nat) {y : Str} {py : Pos} (hc : X.calm = true) (hN : X.N.Nodup) (hi : PIi cl Wx X tg it fi) (ok : BlkOk X.N X.env.scope scope own) (hv : ∀ i ∈ vs', i ∈ own.map (·.2))
    (hg : ∀ (s : Shared) (H : Hp) (C : Addr) (cs : List (Str × Addr)) (fp : List Addr), PGi cl (X.blk s H scope (compEnvC scope cs C X.env) fp) vs' tg tt) (ht : ∀ (s : Shared) (H : Hp) (C : Addr) (cs : List (Str × Addr)) (fp : List Addr), PTsi cl WF (X.blk s H scope (compEnvC scope cs C X.env) fp) ifs t)
    (he : ∀ (s : Shared) (H : Hp) (C : Addr) (cs : List (Str × Addr)) (fp : List Addr), PEi cl WF (X.blk s H scope (compEnvC scope cs C X.env) fp) elt fe) (hy : X.N[i]? = some y := by rfl) (hyl : X.env.scope.names.lookup y = some .local := by rfl)
    (hsw : swapsWith (.ListComp elt [⟨tg, it, ifs, 0⟩] scope pos) (some (.Name y py)) spos.line X.env = pure true := by exact sw_true rfl rfl rfl (by decide +kernel)) (hs : ∀ x, foldedSetIterable it X.env x = pure x := by intro _; rfl) :
    PSi cl Wx X (.Assign [.Name y py] (.ListComp elt [⟨tg, it, ifs, 0⟩] scope pos) spos) (asg (fun ρ => compE (own.map (·.2)) fi tt t fe ρ >>= fun l => pure (.lst l)) (toN i)) := by
  refine ⟨fun pins s σ H D I ⟨G, ρ, S, q⟩ => (ps_setLc (g := tIG X.K cl vs' tt) (tt := tIT X.K cl WF t) (te := tI X.K cl WF fe) hc hN hy hyl hsw hi ok hg ht he hs).run pins s σ H D I (comp_ok (fi := fi) (tt := tt) (t := t) (fe := fe) hv S ?_)⟩
  have q : (compE (own.map (·.2)) fi tt t fe ρ).run (fun l => okS X.K cl G H D Wx (.next (ρ.set i (.v (.lst l))))) (fun e => okS X.K cl G H D Wx (.exc e ρ)) := q
  refine M.mono _ (fun l q a vs H' S' k n h na r z => ?_) (fun e q => exE_of_okS (D := D) q) q
  obtain ⟨S1, k1⟩ := S'.setV (i := i) (w := .lst l) (.lst ⟨h, na⟩ z (r.keep ⟨fun _ _ _ e => e, fun _ _ y _ => .inl y⟩))
  exact q _ _ _ S1 ((S'.kp' k).trans k1)
theorem psi_setLcF (i : Nat) {y : Str} {py : Pos} (hc : X.calm = true) (hN : X.N.Nodup) (hi : PIi cl Wx X tg it fi) (ok : BlkOk X.N X.env.scope scope own) (hv : ∀ i ∈ vs', i ∈ own.map (·.2))
    (hg : ∀ (s : Shared) (H : Hp) (C : Addr) (cs : List (Str × Addr)) (fp : List Addr), PGi cl (X.blk s H scope (compEnvC scope cs C X.env) fp) vs' tg tt) (ht : ∀ (s : Shared) (H : Hp) (C : Addr) (cs : List (Str × Addr)) (fp : List Addr), PTsi cl WF (X.blk s H scope (compEnvC scope cs C X.env) fp) ifs t)
    (he : ∀ (s : Shared) (H : Hp) (C : Addr) (cs : List (Str × Addr)) (fp : List Addr), PEi cl WF (X.blk s H scope (compEnvC scope cs C X.env) fp) elt fe) (hy : X.N[i]? = some y := by rfl) (hyl : X.env.scope.names.lookup y = some .local := by rfl)
    (hsw : swapsWith (.ListComp elt [⟨tg, it, ifs, 0⟩] scope pos) (some (.Name y py)) spos.line X.env = pure true := by exact sw_true rfl rfl rfl (by decide +kernel)) (hs : ∀ x, foldedSetIterable it X.env x = pure x := by intro _; rfl) :
    PSi cl Wx X (.Assign [.Name y py] (.ListComp elt [⟨tg, it, ifs, 0⟩] scope pos) spos) (asgF (compE (own.map (·.2)) fi tt t fe) i) := by
  refine ⟨fun pins s σ H D I ⟨G, ρ, S, q⟩ => (ps_setLc (g := tIG X.K cl vs' tt) (tt := tIT X.K cl WF t) (te := tI X.K cl WF fe) hc hN hy hyl hsw hi ok hg ht he hs).run pins s σ H D I (comp_ok (fi := fi) (tt := tt) (t := t) (fe := fe) hv S ?_)⟩
  have q : (compE (own.map (·.2)) fi tt t fe ρ).run (fun l => (if i < ρ.length then pure (.next (ρ.set i (.acc l))) else M.bad : M Fl).run (okS X.K cl G H D Wx) fun _ => False) (fun e => okS X.K cl G H D Wx (.exc e ρ)) := q
  refine M.mono _ (fun l q a vs H' S' k n h na r z => ?_) (fun e q => exE_of_okS (D := D) q) q
  obtain ⟨hl, q⟩ := ite_run q
  obtain ⟨S2, k2⟩ := S.setAcc (i := i) S' k n h na r z hl
  exact q _ _ _ S2 k2
def itZip (f f2 : List Sl → M W) (ρ : List Sl) : M (List W) := f ρ >>= fun x => f2 ρ >>= fun y => match x, y with
  | .lst a, .lst b => pure (zipW a b)
  | .tup a, .tup b => pure (zipW a b)
  | _, _ => M.bad
theorem pii_zip {kk : Nat} {tpos : Pos} (hg : Gl X "zip") (hm : X.mg "zip" = none) (h : PEi cl Wx X e f) (h2 : PEi cl Wx X e2 f2) (he : starEach [e, e2] X.env = (false, eval e X.env) :: starEach [e2] X.env := by rfl) (he2 : starEach [e2] X.env = (false, eval e2 X.env) :: starEach [] X.env := by rfl) :
    PIi cl Wx X (.Tuple elts kk tpos) (.Call (.Name "zip" p) [e, e2] [] pos) (itZip f f2) := by
  refine ⟨fun pins s σ H R I ⟨G, ρ, S, q⟩ => (RZ.pi_zipA hg hm (pa_cons h (pa_cons h2 pa_nil he2) he) he (by rw [he2]; rfl)).run pins s σ H R I ⟨G, ρ, S, (f ρ).mono (fun w q v H' S' k r => ?_) (fun _ z => z) q⟩⟩
  refine ⟨G, ρ, S', (f2 ρ).mono (fun w2 q v2 H2 S2 k2 r2 => ?_) (fun _ z => exE_of k z) q⟩
  have r := r.keep (S'.kp k2)
  cases w with
  | lst l =>
    cases w2 with
    | lst l2 =>
      obtain ⟨a, vs, rfl, h1, z, r⟩ := r.lst_
      obtain ⟨b, us, rfl, h3, z2, r2⟩ := r2.lst_
      exact ⟨a, b, vs, us, rfl, .inl ⟨h1.sq, h3.sq, q _ H2 S2 (k.trans k2) (itOk_zip h1 h3 r r2 z)⟩⟩
    | _ => exact q.elim
  | tup l =>
    cases w2 with
    | tup l2 =>
      obtain ⟨a, vs, rfl, h1, z, r⟩ := r.tup_
      obtain ⟨b, us, rfl, h3, z2, r2⟩ := r2.tup_
      exact ⟨a, b, vs, us, rfl, .inr ⟨h1.sq, h3.sq, q _ H2 S2 (k.trans k2) (itOk_zipT h1 h3 r r2 z)⟩⟩
    | _ => exact q.elim
  | _ => exact q.elim
def itEnum (f : List Sl → M W) (ρ : List Sl) : M (List W) := f ρ >>= fun x => match x with
  | .lst a => pure (enumW a)
  | _ => M.bad
theorem pii_enum {kk : Nat} {tpos : Pos} (hg : Gl X "enumerate") (hm : X.mg "enumerate" = none) (h : PEi cl Wx X e f) (he : starEach [e] X.env = (false, eval e X.env) :: starEach [] X.env := by rfl) :
    PIi cl Wx X (.Tuple elts kk tpos) (.Call (.Name "enumerate" p) [e] [] pos) (itEnum f) := by
  refine ⟨fun pins s σ H R I ⟨G, ρ, S, q⟩ => (pi_enum hg hm (pa_cons h pa_nil he) he).run pins s σ H R I ⟨G, ρ, S, (f ρ).mono (fun w q v H' S' k r => ?_) (fun _ z => z) q⟩⟩
  cases w with
  | lst l =>
    obtain ⟨a, vs, rfl, h1, z, r⟩ := r.lst_
    exact ⟨a, vs, rfl, h1.sq, q _ H' S' k (itOk_enum h1 r z)⟩
  | _ => exact q.elim
def cutW (l : List W) (lo hi : Option Int) : List W := (l.drop (HT.sIx l.length 0 lo)).take (HT.sIx l.length l.length hi - HT.sIx l.length 0 lo)
def asPart : W → Option (Option Int)
  | .int i => some (some i)
  | _ => none
def pNone (_ : List Sl) : M (Option Int) := pure none
def pSome (f : List Sl → M W) (ρ : List Sl) : M (Option Int) := f ρ >>= fun w => M.ofO (asPart w)
def okP (K : PySem.W.Frag) (cl : Cl) (G : Gd) (ρ : List Sl) (σ : L2.St) (H : Hp) (Q : Option Int → Hp → Prop) (i : Option Int) : Prop := ∀ H', SR K cl G ρ σ H' → Keep G.dl H H' → Q i H'
def tIP (K : PySem.W.Frag) (cl : Cl) (Wx : WX) (f : List Sl → M (Option Int)) : TO := fun σ H Q => ∃ G ρ, SR K cl G ρ σ H ∧ (f ρ).run (okP K cl G ρ σ H Q) (exE K cl G ρ σ H Wx)
def POi (cl : Cl) (Wx : WX) (X : Cx) (e : Option Expr) (f : List Sl → M (Option Int)) : Prop := PO X e (tIP X.K cl Wx f)
theorem poi_none : POi cl Wx X none pNone := ⟨fun pins s σ H Q I ⟨G, ρ, S, q⟩ => po_none.run pins s σ H Q I (q H S .refl)⟩
theorem poi_some (h : PEi cl Wx X e f) : POi cl Wx X (some e) (pSome f) := by
  refine ⟨fun pins s σ H Q I ⟨G, ρ, S, q⟩ => (po_some h).run pins s σ H Q I ⟨G, ρ, S, (f ρ).mono (fun w q v H' S' k r => ?_) (fun _ z => z) q⟩⟩
  obtain ⟨i, ei, q'⟩ := ofO_run q
  cases w with
  | int i => cases ei; exact ⟨i, r.int_, q' H' S' k⟩
  | _ => cases ei
variable {lo hi : Option Expr} {fl fh : List Sl → M (Option Int)} {p2 : Pos}
theorem Reps.cut {K : PySem.W.Frag} {Av : Addr → Prop} {dl : Option (Addr × Addr)} {H : Hp} {ws : List W} {vs : List V} (r : Reps K cl Av dl H ws vs) (l h : Option Int) : Reps K cl Av dl H (cutW ws l h) (cutV vs l h) := by
  unfold cutW cutV
  rw [r.length]
  exact (r.drop _).take _
def slL (f : List Sl → M W) (fl fh : List Sl → M (Option Int)) (ρ : List Sl) : M (List W) := f ρ >>= fun w => fl ρ >>= fun l => fh ρ >>= fun h => match w with
  | .lst ws => pure (cutW ws l h)
  | .ro ws => pure (cutW ws l h)
  | _ => M.bad
theorem pf_sl (he : PEb cl Wx X e f) (hl : POi cl Wx X lo fl) (hh : POi cl Wx X hi fh) : PEf cl Wx X (.Subscript e (.Slice lo hi none p2) pos) (slL f fl fh) := by
  refine ⟨fun pins s σ H Q I ⟨G, ρ, S, q⟩ => (pe_slice sl_list he hl hh).run pins s σ H Q I ⟨G, ρ, S, (f ρ).mono (fun w q v H1 S1 k1 r => ?_) (fun _ z => z) q⟩⟩
  refine ⟨G, ρ, S1, (fl ρ).mono (fun l q H2 S2 k2 => ?_) (fun _ z => exE_of k1 z) q⟩
  refine ⟨G, ρ, S2, (fh ρ).mono (fun h q H3 S3 k3 => ?_) (fun _ z => exE_of (k1.trans k2) z) q⟩
  have k123 := k1.trans (k2.trans k3)
  have r := r.keep S1 (k2.trans k3)
  have fin : ∀ (a : Addr) (vs : List V) (ws : List W), v = .ref a → SqL X.K H3 a vs → vs.length ≤ sizeLine → Reps X.K cl G.Av G.dl H3 ws vs → okF X.K cl G ρ σ H Q (cutW ws l h) → rSlL X.K v l h H3 Q := fun a vs ws e h1 z r q => by
    refine ⟨a, vs, e, h1, fun p n => ?_⟩
    have g := upd_grow (o := .lst (cutV vs l h)) n
    exact okF_of S3 k123 q p _ _ (S3.grow g) (.of g) n upd_same (S3.fresh n) ((r.cut l h).keep (S3.kpNew n)) (Nat.le_trans (cutV_length _ _ _) z)
  cases w with
  | lst ws =>
    obtain ⟨a, vs, e, h1, z, r⟩ := r.lst_
    exact fin a vs ws e (.inl (.inl h1)) z r q
  | ro ws =>
    obtain ⟨a, vs, e, h1, z, r⟩ := r.ro_
    exact fin a vs ws e h1.sq z r q
  | _ => exact q.elim
def slT (f : List Sl → M W) (fl fh : List Sl → M (Option Int)) (ρ : List Sl) : M W := f ρ >>= fun w => fl ρ >>= fun l => fh ρ >>= fun h => match w with
  | .tup ws => pure (.tup (cutW ws l h))
  | _ => M.bad
theorem cutW_all {l : List W} {lo hi : Option Int} (h : HT.sIx l.length 0 lo = 0 ∧ HT.sIx l.length l.length hi = l.length) : cutW l lo hi = l := by
  unfold cutW
  rw [h.1, h.2]
  simp
theorem pi_slT (he : PEb cl Wx X e f) (hl : POi cl Wx X lo fl) (hh : POi cl Wx X hi fh) : PEi cl Wx X (.Subscript e (.Slice lo hi none p2) pos) (slT f fl fh) := by
  refine ⟨fun pins s σ H Q I ⟨G, ρ, S, q⟩ => (pe_slice sl_tupA he hl hh).run pins s σ H Q I ⟨G, ρ, S, (f ρ).mono (fun w q v H1 S1 k1 r => ?_) (fun _ z => z) q⟩⟩
  refine ⟨G, ρ, S1, (fl ρ).mono (fun l q H2 S2 k2 => ?_) (fun _ z => exE_of k1 z) q⟩
  refine ⟨G, ρ, S2, (fh ρ).mono (fun h q H3 S3 k3 => ?_) (fun _ z => exE_of (k1.trans k2) z) q⟩
  have k123 := k1.trans (k2.trans k3)
  have r := r.keep S1 (k2.trans k3)
  cases w with
  | tup ws =>
    obtain ⟨a, vs, rfl, h1, z, r⟩ := r.tup_
    refine ⟨a, vs, rfl, h1.sq, fun hc => ?_, fun _ p n => ?_⟩
    · have q : okE X.K cl G ρ σ H Q (.tup (cutW ws l h)) := q
      rw [cutW_all (by rw [r.length]; exact hc)] at q
      exact q _ H3 S3 k123 (.tup h1 z r)
    · have g := upd_grow (o := .tup (cutV vs l h)) n
      exact q _ _ (S3.grow g) (k123.trans (.of g)) (.tup (.inl ⟨upd_same, S3.fresh n⟩) (Nat.le_trans (cutV_length _ _ _) z) ((r.cut l h).keep (S3.kp (.of g))))
  | _ => exact q.elim
def slS (f : List Sl → M W) (fl fh : List Sl → M (Option Int)) (ρ : List Sl) : M W := f ρ >>= fun w => fl ρ >>= fun l => fh ρ >>= fun h => match w with
  | .str z => if z.length ≤ sizeLine then pure (.str (cutS z l h)) else M.bad
  | _ => M.bad
theorem pi_slS (he : PEb cl Wx X e f) (hl : POi cl Wx X lo fl) (hh : POi cl Wx X hi fh) : PEi cl Wx X (.Subscript e (.Slice lo hi none p2) pos) (slS f fl fh) := by
  refine ⟨fun pins s σ H Q I ⟨G, ρ, S, q⟩ => (pe_slice sl_str he hl hh).run pins s σ H Q I ⟨G, ρ, S, (f ρ).mono (fun w q v H1 S1 k1 r => ?_) (fun _ z => z) q⟩⟩
  refine ⟨G, ρ, S1, (fl ρ).mono (fun l q H2 S2 k2 => ?_) (fun _ z => exE_of k1 z) q⟩
  refine ⟨G, ρ, S2, (fh ρ).mono (fun h q H3 S3 k3 => ?_) (fun _ z => exE_of (k1.trans k2) z) q⟩
  have k123 := k1.trans (k2.trans k3)
  cases w with
  | str z =>
    obtain ⟨hz, q⟩ := ite_run q
    exact ⟨z, r.str_, hz, q _ H3 S3 k123 .str⟩
  | _ => exact q.elim
end
end Sh


namespace Sh
open PySem PySem.Spec PyProof.Rows L2
structure Fr0 (Av : Addr → Prop) (dl : Option (Addr × Addr)) (H : Hp) : Prop where
  trk : ∀ a, Av a → ∃ o, H a = some o
  dlA : ∀ a, isDl dl a → Av a
  deal : dealInv dl H
section
variable (K : PySem.W.Frag) (cl : Cl)
def okC (Av : Addr → Prop) (dl : Option (Addr × Addr)) (H : Hp) (Q : VK) (w : W) : Prop := ∀ v H', Keep dl H H' → dealInv dl H' → Rep K cl Av dl H' w v → Q v H'
def exC (Av : Addr → Prop) (dl : Option (Addr × Addr)) (H : Hp) (E : XK) (e : Exn) : Prop := ∀ c d H', Keep dl H H' → dealInv dl H' → XRep K cl Av dl H' e c d → E c d H'
end
def FnA (P : Program) (w : World) (K : PySem.W.Frag) (mg : Str → Option Value) (base : Heap) (cl : Cl) (k : Nat) (f : Addr) (ks : List Str) (F : List W → List W → M W) : Prop :=
  ∀ (A : Around) (outer : List Env) (s : Shared) (H : Hp) (us zs : List Value) (vs ys : List V) (Q : VK) (E : XK) (Av : Addr → Prop) (dl : Option (Addr × Addr)) (ws kws : List W), Room k A → A.guards = some [] → Env0 P w K mg base A outer s H →
    Vals vs us → Vals ys zs → zs.length = ks.length → Reps K cl Av dl H ws vs → Reps K cl Av dl H kws ys → Fr0 Av dl H → (F ws kws).run (okC K cl Av dl H Q) (exC K cl Av dl H E) →
    codeAny (model P w) A (.call (.ref f) ⟨us, ks.zip zs⟩) (CR (CX P w) outer P w H s Q E) s
def startS (N : Nat) (ws : List W) : List Sl := ws.map .v ++ List.replicate (N - ws.length) .no
def endF : Fl → M W
  | .ret w => pure w
  | .next _ => pure .non
  | .exc e _ => M.throw e
  | _ => M.bad
def bodyM (N : Nat) (g : List Sl → M Fl) (ws : List W) : M W := (g (startS N ws)).elim endF (fun _ => M.bad)
section
variable {P : Program} {w : World} {K : PySem.W.Frag} {mg : Str → Option Value} {base : Heap} {cl : Cl} {Av : Addr → Prop} {dl : Option (Addr × Addr)} {H : Hp}
theorem startS_get {N : Nat} {ws : List W} {i : Nat} {sl : Sl} (e : (startS N ws)[i]? = some sl) (h : sl ≠ .no) : ∃ w, ws[i]? = some w ∧ sl = .v w := by
  unfold startS at e
  by_cases hi : i < ws.length
  · rw [List.getElem?_append_left (by simpa using hi), List.getElem?_map, List.getElem?_eq_getElem hi] at e
    exact ⟨ws[i], by simp [hi], (Option.some.inj e).symm⟩
  · rw [List.getElem?_append_right (by simpa using hi), List.getElem?_replicate] at e
    split at e
    · exact (h (Option.some.inj e).symm).elim
    · cases e
theorem start_get {N : List Str} {vs : List V} {i : Nat} {v : V} (h : vs[i]? = some v) : (L2.start N vs)[i]? = some (some v) := by
  unfold L2.start
  have hi : i < vs.length := (List.getElem?_eq_some_iff.mp h).1
  rw [List.getElem?_append_left (by simpa using hi), List.getElem?_map, h]
  rfl
theorem SR.start {N : List Str} {ws : List W} {vs : List V} (r : Reps K cl Av dl H ws vs) (f : Fr0 Av dl H) (hl : vs.length ≤ N.length) : SR K cl ⟨H, Av, fun _ => none, dl, [], none⟩ (startS N.length ws) (L2.start N vs) H := by
  have av : ∀ a, Gd.Av ⟨H, Av, fun _ => none, dl, [], none⟩ a → Av a := fun a h => by
    rcases h with (h | h) | ⟨_, h⟩
    · exact h
    · cases h
    · cases h
  refine ⟨?_, fun i w e => ?_, fun i ws' e => ?_, fun i c ns ws' e => ?_, fun i a e => ?_, fun i j a e => ?_, fun i a e => ?_, fun a e => ?_, fun i a e => ?_, .refl, fun a h => f.trk a (av a h), fun a h => f.trk a h, f.dlA, f.deal, fun j e q => (by obtain ⟨_, _, z⟩ := startS_get q (by simp); cases z)⟩
  · unfold L2.start startS
    simp [r.length]
  · obtain ⟨w', h1, h2⟩ := startS_get e (by simp)
    cases h2
    obtain ⟨v, h3, h4⟩ := r.get h1
    exact ⟨v, start_get h3, h4.keep ⟨fun _ _ _ e => e, fun a _ z _ => av a z⟩⟩
  · obtain ⟨w', h1, h2⟩ := startS_get e (by simp)
    cases h2
  · obtain ⟨w', h1, h2⟩ := startS_get e (by simp)
    cases h2
  all_goals first
    | exact (show False from by cases e).elim
    | (intro _; cases e)
theorem XRep.sub {Av' : Addr → Prop} {e : Exn} {c : Value} {d : Option Addr} (x : XRep K cl Av dl H e c d) (h : ∀ a, Av' a → Av a) : XRep K cl Av' dl H e c d := by
  obtain ⟨h1, h2 | ⟨a, fs, h2, h3, h4, h5, h6⟩⟩ := x
  · exact ⟨h1, .inl h2⟩
  · exact ⟨h1, .inr ⟨a, fs, h2, h3, h4, h5.keep ⟨fun _ _ _ e => e, fun b _ z _ => h b z⟩, fun z => h6 (h a z)⟩⟩
theorem body_reads {X : Cx} {N : List Str} {body : List Stmt} {g : List Sl → M Fl} {ws : List W} {vs : List V} {Q : VK} {E : XK} (hb : PSsi cl (fun c d _ H => E c d H) X body g) (r : Reps X.K cl Av dl H ws vs) (f : Fr0 Av dl H) (hl : vs.length ≤ N.length)
    (q : (bodyM N.length g ws).run (okC X.K cl Av dl H Q) (exC X.K cl Av dl H E)) : ∃ t, PSs X body t ∧ t { nx := fun _ H' => Q .non H', rt := Q } (L2.start N vs) H := by
  refine ⟨_, hb, ⟨H, Av, fun _ => none, dl, [], none⟩, startS N.length ws, SR.start r f hl, ?_⟩
  refine M.mono _ (fun fl q => ?_) (fun e z => z) q
  cases fl with
  | next ρ' => exact fun oa σ' H' S k => q .non H' S.keep S.deal .non
  | ret w => exact fun v H' r => q v H' r.keep r.deal r.rep
  | brk ρ' => exact q.elim
  | cont ρ' => exact q.elim
  | exc e ρ' => exact fun oa c d σ' H' S k x => q c d H' S.keep S.deal (x.sub fun a h => .inl (.inl h))
def sel {α : Type} (l : List α) (π : List Nat) : List α := π.filterMap fun i => l[i]?
theorem Reps.sel {ws : List W} {vs : List V} (r : Reps K cl Av dl H ws vs) : ∀ π : List Nat, Reps K cl Av dl H (Sh.sel ws π) (Sh.sel vs π)
  | [] => .nil
  | i :: π => by
    unfold Sh.sel
    cases e : ws[i]? with
    | none =>
      have e' : vs[i]? = none := by rw [List.getElem?_eq_none_iff] at e ⊢; rw [← r.length]; exact e
      rw [List.filterMap_cons_none e, List.filterMap_cons_none e']
      exact Reps.sel r π
    | some w =>
      obtain ⟨v, e', rv⟩ := r.get e
      rw [List.filterMap_cons_some e, List.filterMap_cons_some e']
      exact .cons rv (Reps.sel r π)
theorem vals_sel {vs : List V} {us : List Value} (r : Vals vs us) : ∀ π : List Nat, Vals (Sh.sel vs π) (Sh.sel us π)
  | [] => .nil
  | i :: π => by
    unfold Sh.sel
    cases e : vs[i]? with
    | none =>
      have e' : us[i]? = none := by rw [List.getElem?_eq_none_iff] at e ⊢; rw [← r.length]; exact e
      rw [List.filterMap_cons_none e, List.filterMap_cons_none e']
      exact vals_sel r π
    | some w =>
      obtain ⟨v, e', rv⟩ := r.get e
      rw [List.filterMap_cons_some e, List.filterMap_cons_some e']
      exact .cons rv (vals_sel r π)
structure Shape (K : PySem.W.Frag) (cl : Cl) (fd : FuncData) (ps : List Str) (n : Nat) (ks : List Str) (ds : List W) (π : List Nat) : Prop where
  len : ∀ {α : Type} (l : List α), l.length = n + ks.length + ds.length → (sel l π).length = ps.length
  to : ∃ dvs dus, (∀ Av dl H, Reps K cl Av dl H ds dvs) ∧ Vals dvs dus ∧ ∀ (s : Shared) (us zs : List Value), K.In s.heap → us.length = n → zs.length = ks.length → BindsTo s fd ⟨us, ks.zip zs⟩ (ps.zip (sel (us ++ zs ++ dus) π))
def bindW (n : Nat) (ds : List W) (π : List Nat) (F : List W → M W) (ws kws : List W) : M W := if ws.length = n then F (sel (ws ++ kws ++ ds) π) else M.bad
variable {k : Nat} {f : Addr} {name qual : Str} {params : Arguments} {body : List Stmt} {scope : Scope} {dV kV doc pm cdv ct oc : Value} {an od : Option Addr} {osl : Array (Option Value)} {N ps ks : List Str}
theorem fnA_of {n : Nat} {ds : List W} {π : List Nat} {g : List Sl → M Fl} (lk : K.lookup f = some ⟨oc, od, .func (PySem.W.fnOf name qual params body scope dV kV doc pm an cdv ct), osl⟩) (hcd : PySem.W.codeIn K cdv qual = true) (S : FnScope N ps scope)
    (sh : Shape K cl (PySem.W.fnOf name qual params body scope dV kV doc pm an cdv ct) ps n ks ds π)
    (hbody : ∀ (A : Around) (outer : List Env) (s : Shared) (H : Hp) (E : XK), Room k (A.deeper (envOfC qual scope s.heap.objs.size f cdv)) → A.guards = some [] →
      PSsi cl (fun c d _ H => E c d H) (cxOf (CX P w) P w K mg base N qual scope f cdv A outer s H E) body g) : FnA P w K mg base cl (k + 1) f ks (bindW n ds π (bodyM N.length g)) := by
  intro A outer s H us zs vs ys Q E Av dl ws kws hr hg e0 rv rz lz r1 r2 fr q
  obtain ⟨hn, q⟩ := ite_run q
  obtain ⟨dvs, dus, d1, d2, hto⟩ := sh.to
  have KX : K.In s.heap := e0.mod.kin.keeps fun b o e => (e0.bs b o e).1
  have hl1 : us.length = n := by rw [← rv.length, ← r1.length]; exact hn
  have rr : Reps K cl Av dl H (ws ++ kws ++ ds) (vs ++ ys ++ dvs) := (r1.append r2).append (d1 _ _ _)
  have vv : Vals (vs ++ ys ++ dvs) (us ++ zs ++ dus) := (rv.append rz).append d2
  have hlen : (vs ++ ys ++ dvs).length = n + ks.length + ds.length := by
    rw [List.length_append, List.length_append, rv.length, rz.length, hl1, lz, ← (d1 Av dl H).length]
  have hps := sh.len _ hlen
  have hN : ps.length ≤ N.length := by have := congrArg List.length S.pre; rw [List.length_take] at this; omega
  refine StX.run_bnd lk hcd S hr e0 (G := fun xs H2 => xs = Sh.sel (vs ++ ys ++ dvs) π ∧ H2 = H) (fun A' Ex Q' h => hto s us zs KX hl1 lz _ _ _ _ ?_) ?_
  · exact h s H _ _ e0 Un.refl rfl (fun _ _ z => z) (vals_sel vv π) hps ⟨rfl, rfl⟩
  · rintro s2 H2 xs ⟨rfl, rfl⟩ hr'
    exact body_reads (hbody A outer s2 _ E hr' hg) (rr.sel π) fr (by rw [hps]; exact hN) q
end
end Sh


namespace Sh
open PySem PySem.Spec PyProof.Rows L2
section
variable {X : Cx} {cl : Cl} {Wx : WX} {k : Nat} {f C : Addr} {ks : List Str} {F : List W → List W → M W} {x m : Str} {p pos apos : Pos} {e o : Expr} {es : List Expr} {kws : List Keyword} {fa fo : List Sl → M W} {fs fk : List Sl → M (List W)}
def PKi (cl : Cl) (Wx : WX) (X : Cx) (kws : List Keyword) (f : List Sl → M (List W)) : Prop := PK X kws (tIA X.K cl Wx f)
theorem pki_nil : PKi cl Wx X [] aNil := ⟨fun pos pins s σ H Q I ⟨G, ρ, S, q⟩ => pk_nil.run pos pins s σ H Q I (q [] H S .refl .nil)⟩
theorem pki_cons {nm : Option Str} {kpos : Pos} (ha : PEi cl Wx X e fa) (hs : PKi cl Wx X kws fs) : PKi cl Wx X (⟨nm, e, kpos⟩ :: kws) (aCons fa fs) := by
  refine ⟨fun pos pins s σ H Q I ⟨G, ρ, S, q⟩ => (pk_cons ha hs).run pos pins s σ H Q I ⟨G, ρ, S, (fa ρ).mono (fun w q v H1 S1 k1 r1 => ?_) (fun _ z => z) q⟩⟩
  refine ⟨G, ρ, S1, (fs ρ).mono (fun ws q vs H2 S2 k2 r2 => ?_) (fun _ z => exE_of k1 z) q⟩
  exact q (v :: vs) H2 S2 (k1.trans k2) (.cons (r1.keep (S1.kp k2)) r2)
theorem SR.fr0 {K : PySem.W.Frag} {G : Gd} {ρ : List Sl} {σ : L2.St} {H : Hp} (S : SR K cl G ρ σ H) : Fr0 G.Av G.dl H := ⟨S.trk, fun a h => .inl (.inl (S.dlA a h)), S.deal⟩
theorem run_fnA {pins : List (Addr × Obj)} {G : Gd} {ρ : List Sl} {σ : L2.St} {H : Hp} {s : Shared} {Q : VK} {us zs : List Value} {vs ys : List V} {ws kws : List W} (hF : FnA X.prog X.w X.K X.mg X.base cl k f ks F) (hr : Room k X.A) (hg : X.A.guards = some []) (tk : Takes X Wx)
    (I : L2.Inv X pins σ H s) (S : SR X.K cl G ρ σ H) (rv : Vals vs us) (rz : Vals ys zs) (lz : zs.length = ks.length) (r1 : Reps X.K cl G.Av G.dl H ws vs) (r2 : Reps X.K cl G.Av G.dl H kws ys) (q : (F ws kws).run (okE X.K cl G ρ σ H Q) (exE X.K cl G ρ σ H Wx)) :
    wpAny (model X.prog X.w) X.A (call (.ref f) us (ks.zip zs)) (EP X pins σ Q) X.xe s := by
  refine wpAny_call (codeAny_mono (hF X.A X.stack s H us zs vs ys Q (fun c d H' => Wx c d σ H') G.Av G.dl ws kws hr hg I.env0 rv rz lz r1 r2 S.fr0 ?_) fun r s' hq => ?_)
  · exact M.mono _ (fun w q v H' kp d r => q v H' (S.kept kp d) kp r) (fun e q c d H' kp dd x => q c d H' (S.kept kp dd) kp x) q
  · cases r with
    | error e => exact tk _ _ (XE.of_call I (fun _ _ _ z => z) hq)
    | ok fl =>
      cases fl with
      | ret u => exact I.after hq
      | next => exact False.elim hq
      | brk => exact False.elim hq
      | cont => exact False.elim hq
def callF (F : List W → List W → M W) (fs fk : List Sl → M (List W)) (ρ : List Sl) : M W := fs ρ >>= fun ws => fk ρ >>= fun kws => F ws kws
theorem pi_call (hF : FnA X.prog X.w X.K X.mg X.base cl k f [] F) (hr : Room k X.A) (hgd : X.A.guards = some []) (tk : Takes X Wx) (hm : X.mg x = some (.ref f)) (hk : PySem.W.keepIn X.K (.ref f) = true) (ha : PAi cl Wx X (e :: es) fs) (hg : Gl X x := by rfl)
    (hdb : (x == ("__debug__" : Str)) = false := by decide) (he : starEach (e :: es) X.env = (false, eval e X.env) :: starEach es X.env := by rfl) (hpl : (backTo pos (starEach es X.env)).any (·.1) = false := by rfl) :
    PEi cl Wx X (.Call (.Name x p) (e :: es) [] pos) (callF F fs aNil) := by
  refine ⟨fun pins s σ H Q I ⟨G, ρ, S, q⟩ => wpAny_Call_Name_kw (ld_glob I hg hm ?_ hdb)⟩
  refine PySem.W.callWith_K (h₀ := X.base) I.ok.mod.kin hk (thn (ha.run pos pins s σ H (fun vs H1 => ∀ us s1, L2.Inv X pins σ H1 s1 → Vals vs us → wpAny (model X.prog X.w) X.A (call (.ref f) ([] ++ us)) (EP X pins σ Q) X.xe s1) I ⟨G, ρ, S, (fs ρ).mono (fun ws q vs H' S' k r => ?_) (fun _ z => z) q⟩) fun us s1 ⟨vs, H1, I1, r, q⟩ => ⟨I1.kIn, q us s1 I1 r⟩) he hpl
  intro us s1 I1 rv
  exact run_fnA (zs := []) (ys := []) hF hr hgd tk I1 S' rv .nil rfl r .nil ((F ws []).mono (fun w q => okE_of k q) (fun _ z => exE_of k z) q)
theorem pi_call0 (hF : FnA X.prog X.w X.K X.mg X.base cl k f [] F) (hr : Room k X.A) (hgd : X.A.guards = some []) (tk : Takes X Wx) (hm : X.mg x = some (.ref f)) (hk : PySem.W.keepIn X.K (.ref f) = true) (hg : Gl X x := by rfl)
    (hdb : (x == ("__debug__" : Str)) = false := by decide) : PEi cl Wx X (.Call (.Name x p) [] [] pos) (callF F aNil aNil) := by
  refine ⟨fun pins s σ H Q I ⟨G, ρ, S, q⟩ => wpAny_Call_Name_kw (ld_glob I hg hm ?_ hdb)⟩
  exact PySem.W.callWith_K0 I.kIn hk (run_fnA (us := []) (vs := []) (zs := []) (ys := []) hF hr hgd tk I S .nil .nil rfl .nil .nil q)
theorem pi_callK (hF : FnA X.prog X.w X.K X.mg X.base cl k f ks F) (hr : Room k X.A) (hgd : X.A.guards = some []) (tk : Takes X Wx) (hm : X.mg x = some (.ref f)) (hk : PySem.W.keepIn X.K (.ref f) = true) (ha : PAi cl Wx X (e :: es) fs) (hkw : PKi cl Wx X kws fk) (hg : Gl X x := by rfl)
    (hall : (backToKw pos (keywordEach kws X.env)).all (·.1.isSome) = true := by rfl) (hks : (backToKw pos (keywordEach kws X.env)).filterMap (·.1) = ks := by rfl) (hdb : (x == ("__debug__" : Str)) = false := by decide)
    (hlk : kws.length = ks.length := by rfl) (he : starEach (e :: es) X.env = (false, eval e X.env) :: starEach es X.env := by rfl) (hpl : ((backTo pos (starEach (e :: es) X.env)).any (·.1) || (backToKw pos (keywordEach kws X.env)).any (·.1.isNone)) = false := by rfl) :
    PEi cl Wx X (.Call (.Name x p) (e :: es) kws pos) (callF (fun ws kws => if kws.length = ks.length then F ws kws else M.bad) fs fk) := by
  refine ⟨fun pins s σ H Q I ⟨G, ρ, S, q⟩ => wpAny_Call_Name_kw (ld_glob I hg hm ?_ hdb)⟩
  refine PySem.W.callWith_KW (h₀ := X.base) I.ok.mod.kin hk hall (thn (ha.run pos pins s σ H (fun vs H1 => ∀ us s1, L2.Inv X pins σ H1 s1 → Vals vs us → wpAny (model X.prog X.w) X.A (evalAll ((backToKw pos (keywordEach kws X.env)).map (·.2))) (fun zs s2 => X.K.In s2.heap ∧ wpAny (model X.prog X.w) X.A (call (.ref f) us (ks.zip zs)) (EP X pins σ Q) X.xe s2) X.xe s1) I
    ⟨G, ρ, S, (fs ρ).mono (fun ws q vs H' S' k r => ?_) (fun _ z => z) q⟩) fun us s1 ⟨vs, H1, I1, r, q⟩ => by rw [hks]; exact q us s1 I1 r) hpl he
  intro us s1 I1 rv
  refine thn (hkw.run pos pins s1 σ H' (fun ys H2 => ∀ zs s2, L2.Inv X pins σ H2 s2 → Vals ys zs → wpAny (model X.prog X.w) X.A (call (.ref f) us (ks.zip zs)) (EP X pins σ Q) X.xe s2) I1 ⟨G, ρ, S', (fk ρ).mono (fun kws q ys H2 S2 k2 r2 => ?_) (fun _ z => exE_of k z) q⟩) fun zs s2 ⟨ys, H2, I2, rz, q⟩ => ⟨I2.kIn, q zs s2 I2 rz⟩
  intro zs s2 I2 rz
  obtain ⟨hl, q⟩ := ite_run q
  exact run_fnA hF hr hgd tk I2 S2 rv rz (by rw [← rz.length, ← r2.length]; exact hl) (r.keep (S'.kp k2)) r2 ((F ws _).mono (fun w q => okE_of (k.trans k2) q) (fun _ z => exE_of (k.trans k2) z) q)
structure CM (K : PySem.W.Frag) (C : Addr) (m : Str) (f : Addr) : Prop where
  cls : Cls K C
  m : Meth K C m f
theorem look_none : ∀ {fs : List (Str × V)} {m : Str}, m ∉ fs.map (·.1) → fs.lookup m = none
  | [], _, _ => rfl
  | (a, v) :: fs, m, h => by
    simp only [List.map_cons, List.mem_cons, not_or] at h
    rw [List.lookup_cons]
    have : (m == a) = false := beq_eq_false_iff_ne.mpr h.1
    rw [this]
    exact look_none h.2
def recv (c : Nat) (m : Str) : W → Bool
  | .ins c' ns _ => c' == c && !(ns.contains m)
  | _ => false
def methF (c : Nat) (m : Str) (F : List W → List W → M W) (fo : List Sl → M W) (fs fk : List Sl → M (List W)) (ρ : List Sl) : M W := fo ρ >>= fun o => if recv c m o = true then fs ρ >>= fun ws => fk ρ >>= fun kws => F (o :: ws) kws else M.bad
theorem recv_ok {K : PySem.W.Frag} {Av : Addr → Prop} {dl : Option (Addr × Addr)} {H : Hp} {c : Nat} {m : Str} {w : W} {v : V} (r : Rep K cl Av dl H w v) (h : recv c m w = true) : ∃ a dx fs, v = .ref a ∧ H a = some (.ins (cl c) dx fs) ∧ fs.lookup m = none := by
  cases w with
  | ins c' ns l =>
    simp only [recv, Bool.and_eq_true, beq_iff_eq, Bool.not_eq_true'] at h
    obtain ⟨rfl, h2⟩ := h
    obtain ⟨a, dx, fs, rfl, h3, _, h4, _⟩ := r.ins_
    refine ⟨a, dx, fs, rfl, h3, look_none ?_⟩
    rw [h4]
    simpa using h2
  | _ => cases h
theorem pi_meth {c : Nat} {pl : Sem Bool} (hF : FnA X.prog X.w X.K X.mg X.base cl k f [] F) (hr : Room k X.A) (hgd : X.A.guards = some []) (tk : Takes X Wx) (hm : CM X.K (cl c) m f) (ho : PEi cl Wx X o fo) (ha : PAi cl Wx X (e :: es) fs)
    (he : starEach (e :: es) X.env = (false, eval e X.env) :: starEach es X.env := by rfl) (hpl : (backTo pos (starEach es X.env)).any (·.1) = false := by rfl)
    (ht : eval (.Call (.Attribute o m apos) (e :: es) [] pos) X.env = (do
      let ov ← eval o X.env
      standAt apos.atName
      let (f, first) ← holding [ov] (getMethod ov m pl)
      callWith pos f first (backTo pos (starEach (e :: es) X.env)) (backToKw pos (keywordEach [] X.env))) := by rfl) : PEi cl Wx X (.Call (.Attribute o m apos) (e :: es) [] pos) (methF c m F fo fs aNil) := by
  refine ⟨fun pins s σ H Q I ⟨G, ρ, S, q⟩ => PySem.W.methodCall_KW (pl := pl) (thn (PE.run ho pins s σ H (fun v H1 => ∀ u s1, L2.Inv X pins σ H1 s1 → RelV v u → wpAny (model X.prog X.w) X.A (getMethod u m pl) (fun fx s2 => wpAny (model X.prog X.w) X.A (callWith pos fx.1 fx.2 (backTo pos (starEach (e :: es) X.env)) (backToKw pos (keywordEach [] X.env))) (EP X pins σ Q) X.xe s2) X.xe s1) I
    ⟨G, ρ, S, (fo ρ).mono (fun w q v H' S' k r => ?_) (fun _ z => z) q⟩) fun u s1 ⟨v, H1, I1, rx, q⟩ => q u s1 I1 rx) ht⟩
  intro u s1 I1 rx
  obtain ⟨hc, q⟩ := ite_run q
  obtain ⟨a, dx, fl, rfl, h1, h2⟩ := recv_ok r hc
  obtain rfl : u = Value.ref a := rx
  refine getmeth_ok I1 h1 hm.cls hm.m h2 ?_
  refine PySem.W.callWith_K (first := [.ref a]) (h₀ := X.base) I.ok.mod.kin hm.m.kp (thn (ha.run pos pins s1 σ H' (fun vs H2 => ∀ us s2, L2.Inv X pins σ H2 s2 → Vals vs us → wpAny (model X.prog X.w) X.A (call (.ref f) ([.ref a] ++ us)) (EP X pins σ Q) X.xe s2) I1 ⟨G, ρ, S', (fs ρ).mono (fun ws q vs H2 S2 k2 r2 => ?_) (fun _ z => exE_of k z) q⟩) fun us s2 ⟨vs, H2, I2, rv, q⟩ => ⟨I2.kIn, q us s2 I2 rv⟩) he hpl
  intro us s2 I2 rv
  exact run_fnA (us := .ref a :: us) (vs := .ref a :: vs) (zs := []) (ys := []) hF hr hgd tk I2 S2 (.cons rfl rv) .nil rfl (.cons (r.keep (S'.kp k2)) r2) .nil ((F _ _).mono (fun w q => okE_of (k.trans k2) q) (fun _ z => exE_of (k.trans k2) z) q)
theorem pi_meth0 {c : Nat} {pl : Sem Bool} (hF : FnA X.prog X.w X.K X.mg X.base cl k f [] F) (hr : Room k X.A) (hgd : X.A.guards = some []) (tk : Takes X Wx) (hm : CM X.K (cl c) m f) (ho : PEi cl Wx X o fo)
    (ht : eval (.Call (.Attribute o m apos) [] [] pos) X.env = (do
      let ov ← eval o X.env
      standAt apos.atName
      let (f, first) ← holding [ov] (getMethod ov m pl)
      callWith pos f first (backTo pos (starEach [] X.env)) (backToKw pos (keywordEach [] X.env))) := by rfl) : PEi cl Wx X (.Call (.Attribute o m apos) [] [] pos) (methF c m F fo aNil aNil) := by
  refine ⟨fun pins s σ H Q I ⟨G, ρ, S, q⟩ => PySem.W.methodCall_KW (pl := pl) (thn (PE.run ho pins s σ H (fun v H1 => ∀ u s1, L2.Inv X pins σ H1 s1 → RelV v u → wpAny (model X.prog X.w) X.A (getMethod u m pl) (fun fx s2 => wpAny (model X.prog X.w) X.A (callWith pos fx.1 fx.2 (backTo pos (starEach [] X.env)) (backToKw pos (keywordEach [] X.env))) (EP X pins σ Q) X.xe s2) X.xe s1) I
    ⟨G, ρ, S, (fo ρ).mono (fun w q v H' S' k r => ?_) (fun _ z => z) q⟩) fun u s1 ⟨v, H1, I1, rx, q⟩ => q u s1 I1 rx) ht⟩
  intro u s1 I1 rx
  obtain ⟨hc, q⟩ := ite_run q
  obtain ⟨a, dx, fl, rfl, h1, h2⟩ := recv_ok r hc
  obtain rfl : u = Value.ref a := rx
  refine getmeth_ok I1 h1 hm.cls hm.m h2 ?_
  exact PySem.W.callWith_K0 (first := [.ref a]) I1.kIn hm.m.kp (run_fnA (us := [.ref a]) (vs := [.ref a]) (zs := []) (ys := []) hF hr hgd tk I1 S' (.cons rfl .nil) .nil rfl (.cons r .nil) .nil ((F _ _).mono (fun w q => okE_of k q) (fun _ z => exE_of k z) q))
theorem pi_methK {c : Nat} {pl : Sem Bool} (hF : FnA X.prog X.w X.K X.mg X.base cl k f ks F) (hr : Room k X.A) (hgd : X.A.guards = some []) (tk : Takes X Wx) (hm : CM X.K (cl c) m f) (ho : PEi cl Wx X o fo) (ha : PAi cl Wx X (e :: es) fs) (hkw : PKi cl Wx X kws fk)
    (hall : (backToKw pos (keywordEach kws X.env)).all (·.1.isSome) = true := by rfl) (hks : (backToKw pos (keywordEach kws X.env)).filterMap (·.1) = ks := by rfl)
    (he : starEach (e :: es) X.env = (false, eval e X.env) :: starEach es X.env := by rfl) (hpl : ((backTo pos (starEach (e :: es) X.env)).any (·.1) || (backToKw pos (keywordEach kws X.env)).any (·.1.isNone)) = false := by rfl)
    (ht : eval (.Call (.Attribute o m apos) (e :: es) kws pos) X.env = (do
      let ov ← eval o X.env
      standAt apos.atName
      let (f, first) ← holding [ov] (getMethod ov m pl)
      callWith pos f first (backTo pos (starEach (e :: es) X.env)) (backToKw pos (keywordEach kws X.env))) := by rfl) : PEi cl Wx X (.Call (.Attribute o m apos) (e :: es) kws pos) (methF c m (fun ws kws => if kws.length = ks.length then F ws kws else M.bad) fo fs fk) := by
  refine ⟨fun pins s σ H Q I ⟨G, ρ, S, q⟩ => PySem.W.methodCall_KW (pl := pl) (thn (PE.run ho pins s σ H (fun v H1 => ∀ u s1, L2.Inv X pins σ H1 s1 → RelV v u → wpAny (model X.prog X.w) X.A (getMethod u m pl) (fun fx s2 => wpAny (model X.prog X.w) X.A (callWith pos fx.1 fx.2 (backTo pos (starEach (e :: es) X.env)) (backToKw pos (keywordEach kws X.env))) (EP X pins σ Q) X.xe s2) X.xe s1) I
    ⟨G, ρ, S, (fo ρ).mono (fun w q v H' S' k r => ?_) (fun _ z => z) q⟩) fun u s1 ⟨v, H1, I1, rx, q⟩ => q u s1 I1 rx) ht⟩
  intro u s1 I1 rx
  obtain ⟨hc, q⟩ := ite_run q
  obtain ⟨a, dx, fl, rfl, h1, h2⟩ := recv_ok r hc
  obtain rfl : u = Value.ref a := rx
  refine getmeth_ok I1 h1 hm.cls hm.m h2 ?_
  refine PySem.W.callWith_KW (first := [.ref a]) (h₀ := X.base) I.ok.mod.kin hm.m.kp hall (thn (ha.run pos pins s1 σ H' (fun vs H2 => ∀ us s2, L2.Inv X pins σ H2 s2 → Vals vs us → wpAny (model X.prog X.w) X.A (evalAll ((backToKw pos (keywordEach kws X.env)).map (·.2))) (fun zs s3 => X.K.In s3.heap ∧ wpAny (model X.prog X.w) X.A (call (.ref f) ([.ref a] ++ us) (ks.zip zs)) (EP X pins σ Q) X.xe s3) X.xe s2) I1
    ⟨G, ρ, S', (fs ρ).mono (fun ws q vs H2 S2 k2 r2 => ?_) (fun _ z => exE_of k z) q⟩) fun us s2 ⟨vs, H2, I2, rv, q⟩ => by rw [hks]; exact q us s2 I2 rv) hpl he
  intro us s2 I2 rv
  refine thn (hkw.run pos pins s2 σ H2 (fun ys H3 => ∀ zs s3, L2.Inv X pins σ H3 s3 → Vals ys zs → wpAny (model X.prog X.w) X.A (call (.ref f) ([.ref a] ++ us) (ks.zip zs)) (EP X pins σ Q) X.xe s3) I2 ⟨G, ρ, S2, (fk ρ).mono (fun kws q ys H3 S3 k3 r3 => ?_) (fun _ z => exE_of (k.trans k2) z) q⟩) fun zs s3 ⟨ys, H3, I3, rz, q⟩ => ⟨I3.kIn, q zs s3 I3 rz⟩
  intro zs s3 I3 rz
  obtain ⟨hl, q⟩ := ite_run q
  exact run_fnA (us := .ref a :: us) (vs := .ref a :: vs) hF hr hgd tk I3 S3 (.cons rfl rv) rz (by rw [← rz.length, ← r3.length]; exact hl) (.cons (r.keep (S'.kp (k2.trans k3))) (r2.keep (S2.kp k3))) r3 ((F _ _).mono (fun w q => okE_of (k.trans (k2.trans k3)) q) (fun _ z => exE_of (k.trans (k2.trans k3)) z) q)
end
end Sh


namespace Sh
open PySem PySem.Spec PyProof.Rows L2
def look (f : Str) : List Str → List W → Option W
  | n :: ns, w :: ws => if n = f then some w else look f ns ws
  | _, _ => none
section
variable {K : PySem.W.Frag} {cl : Cl} {Av : Addr → Prop} {dl : Option (Addr × Addr)} {H : Hp}
theorem look_ok {f : Str} : ∀ {fs : List (Str × V)} {ns : List Str} {ws : List W} {w : W}, fs.map (·.1) = ns → Reps K cl Av dl H ws (fs.map (·.2)) → look f ns ws = some w → ∃ v, fs.lookup f = some v ∧ Rep K cl Av dl H w v
  | [], ns, ws, w, e, r, h => by subst e; cases r; cases h
  | (n, v) :: fs, ns, ws, w, e, r, h => by
    subst e
    cases r with
    | cons r t =>
      rw [List.map_cons] at h
      by_cases hn : n = f
      · simp only [look, if_pos hn] at h
        cases h
        subst hn
        exact ⟨v, by simp [List.lookup_cons], r⟩
      · simp only [look, if_neg hn] at h
        obtain ⟨v', h1, h2⟩ := look_ok rfl t h
        refine ⟨v', ?_, h2⟩
        rw [List.lookup_cons, beq_eq_false_iff_ne.mpr (Ne.symm hn)]
        exact h1
theorem putF_new {f : Str} {v : V} : ∀ {fs : List (Str × V)}, f ∉ fs.map (·.1) → putF f v fs = fs ++ [(f, v)]
  | [], _ => rfl
  | (g, x) :: fs, h => by
    simp only [List.map_cons, List.mem_cons, not_or] at h
    have e : putF f v ((g, x) :: fs) = if g = f then (g, v) :: fs else (g, x) :: putF f v fs := rfl
    rw [e, if_neg (Ne.symm h.1), putF_new h.2]
    rfl
end
section
variable {X : Cx} {cl : Cl} {Wx : WX} {k : Nat} {e o : Expr} {es : List Expr} {fo fe : List Sl → M W} {f x : Str} {pos p pos' : Pos} {cs : List Nat}
def Atts (K : PySem.W.Frag) (cl : Cl) (cs : List Nat) (f : Str) : Prop := ∀ c ∈ cs, Cls K (cl c) ∧ NoAttr K (cl c) f
def fldW (cs : List Nat) (f : Str) : W → Option W
  | .ins c ns l => if cs.contains c = true then look f ns l else none
  | _ => none
theorem pi_fld (cs : List Nat) (hc : Atts X.K cl cs f) (ho : PEi cl Wx X o fo) (hb : attributeBase o f X.env (eval o X.env) = eval o X.env := by rfl) : PEi cl Wx X (.Attribute o f pos) (un1 (fldW cs f) fo) := by
  refine ⟨fun pins s σ H Q I ⟨G, ρ, S, q⟩ => (pe_fld ho hb).run pins s σ H Q I ⟨G, ρ, S, (fo ρ).mono (fun w q v H' S' k r => ?_) (fun _ z => z) q⟩⟩
  obtain ⟨w', e, q'⟩ := ofO_run q
  clear q
  cases w with
  | ins c ns l =>
    by_cases h : cs.contains c = true
    · simp only [fldW, if_pos h] at e
      obtain ⟨a, dx, fs, rfl, h1, _, h2, h3⟩ := r.ins_
      obtain ⟨v', h4, h5⟩ := look_ok h2 h3 e
      obtain ⟨c1, c2⟩ := hc c (by simpa using h)
      exact ⟨a, cl c, dx, fs, v', rfl, h1, c1, c2, h4, q' v' H' S' k h5⟩
    · simp only [fldW, if_neg h] at e
      cases e
  | _ => cases e
def fldO (i : Nat) (cs : List Nat) (f : Str) (ρ : List Sl) : M W := match ρ[i]? with
  | some (.obj c ns l) => if cs.contains c = true then M.ofO (look f ns l) else M.bad
  | _ => M.bad
theorem pi_fldO (i : Nat) (cs : List Nat) {px : Pos} (hc : Atts X.K cl cs f) (hN : X.N[i]? = some x := by rfl) (hv : Vis X.env.scope x := by first | exact Or.inl rfl | exact Or.inr (Or.inl rfl) | exact Or.inr (Or.inr rfl)) (hd : (x == ("__debug__" : Str)) = false := by decide)
    (hcd : (x == ("__classdict__" : Str)) = false := by decide) (hb : attributeBase (.Name x px) f X.env (eval (.Name x px) X.env) = eval (.Name x px) X.env := by rfl) : PEi cl Wx X (.Attribute (.Name x px) f pos) (fldO i cs f) := by
  refine ⟨fun pins s σ H Q I ⟨G, ρ, S, q⟩ => (pe_fld (pe_var hN hv hd hcd) hb).run pins s σ H Q I ?_⟩
  unfold fldO at q
  split at q
  · rename_i c ns l el
    obtain ⟨h, q⟩ := ite_run q
    obtain ⟨w, ew, q⟩ := ofO_run q
    obtain ⟨a, dx, fs, h0, h1, h2, h3, h4, h5⟩ := S.obj i c ns l el
    obtain ⟨v, h6, h7⟩ := look_ok h4 h5 ew
    obtain ⟨c1, c2⟩ := hc c (by simpa using h)
    exact ⟨_, h2, a, cl c, dx, fs, v, rfl, h3, c1, c2, h6, q v H S .refl h7⟩
  · exact q.elim
theorem SR.chgObj {K : PySem.W.Frag} {G : Gd} {ρ : List Sl} {σ : L2.St} {H : Hp} {i c : Nat} {ns ns' : List Str} {ws ws' : List W} {a dx : Addr} {fs fs' : List (Str × V)} (S : SR K cl G ρ σ H) (e : ρ[i]? = some (.obj c ns ws)) (ho : G.oa i = some a) (hH : H a = some (.ins (cl c) dx fs)) (hn : fs'.map (·.1) = ns') (r : Reps K cl G.Av G.dl H ws' (fs'.map (·.2))) :
    SR K cl G (ρ.set i (.obj c ns' ws')) σ (upd H a (.ins (cl c) dx fs')) ∧ Kp G.Av G.Av H (upd H a (.ins (cl c) dx fs')) := by
  have hA : G.Av a := .inr ⟨i, ho⟩
  have kp : Kp G.Av G.Av H (upd H a (.ins (cl c) dx fs')) := ⟨fun b o n e => by rw [upd_ne (fun q => n (by rw [q]; exact hA))]; exact e, fun _ _ z _ => z⟩
  have nd := S.noDl ho
  have hi : i < ρ.length := (List.getElem?_eq_some_iff.mp e).1
  refine ⟨⟨by simp [S.len], fun j w' e' => ?_, fun j ws2 e' => ?_, fun j c2 ns2 ws2 e' => ?_, fun j b h => ?_, S.inj, S.new, S.tmpN, S.tmpO, fun b o q n => ?_, fun b h => ?_, S.trk0, S.dlA, fun d g q => ?_, (S.xcp.setR).same kp⟩, kp⟩
  · by_cases hj : i = j
    · subst hj
      rw [List.getElem?_set_self hi] at e'
      cases e'
    · rw [List.getElem?_set_ne hj] at e'
      obtain ⟨v', h1, h2⟩ := S.v j w' e'
      exact ⟨v', h1, h2.keep kp⟩
  · by_cases hj : i = j
    · subst hj
      rw [List.getElem?_set_self hi] at e'
      cases e'
    · rw [List.getElem?_set_ne hj] at e'
      obtain ⟨b, vs', h1, h2, h3, h4, h5⟩ := S.acc j _ e'
      refine ⟨b, vs', h1, h2, ?_, h4.keep kp, h5⟩
      rw [upd_ne (fun q => hj (S.inj i j a ho (by rw [← q]; exact h1)))]
      exact h3
  · by_cases hj : i = j
    · subst hj
      rw [List.getElem?_set_self hi] at e'
      cases e'
      obtain ⟨b, dx2, _, h0, h1, h2, h3, _⟩ := S.obj i c ns ws e
      rw [ho] at h1
      cases h1
      rw [hH] at h3
      cases h3
      exact ⟨a, dx, fs', h0, ho, h2, upd_same, hn, r.keep kp⟩
    · rw [List.getElem?_set_ne hj] at e'
      obtain ⟨b, dx2, fs2, h0, h1, h2, h3, h4, h5⟩ := S.obj j c2 ns2 _ e'
      refine ⟨b, dx2, fs2, h0, h1, h2, ?_, h4, h5.keep kp⟩
      rw [upd_ne (fun q => hj (S.inj i j a ho (by rw [← q]; exact h1)))]
      exact h3
  · by_cases hj : i = j
    · subst hj; rw [List.getElem?_set_self hi]; rfl
    · rw [List.getElem?_set_ne hj]; exact S.oaI j b h
  · rw [upd_ne (fun y => by subst y; rw [S.new i _ ho] at q; cases q)]
    exact S.keep b o q n
  · by_cases y : b = a
    · subst y; exact ⟨_, upd_same⟩
    · obtain ⟨o, q⟩ := S.trk b h
      exact ⟨o, by rw [upd_ne y]; exact q⟩
  · obtain ⟨n, gs, m, h1, h2, h3⟩ := S.deal d g q
    refine ⟨n, gs, m, ?_, ?_, h3⟩
    · rw [upd_ne (fun y => nd ⟨(d, g), q, .inl y.symm⟩)]; exact h1
    · rw [upd_ne (fun y => nd ⟨(d, g), q, .inr y.symm⟩)]; exact h2
def stO (i : Nat) (cs : List Nat) (f : Str) (fe : List Sl → M W) (ρ : List Sl) : M Fl := match ρ[i]? with
  | some (.obj c ns l) => if cs.contains c = true ∧ ns.contains f = false ∧ ns.length < 1000 then (fe ρ).elim (fun w => pure (.next (ρ.set i (.obj c (ns ++ [f]) (l ++ [w]))))) (exN ρ) else M.bad
  | _ => M.bad
theorem psi_stO (i : Nat) (cs : List Nat) {px : Pos} (hc : Atts X.K cl cs f) (he : PEi cl Wx X e fe) (hN : X.N[i]? = some x := by rfl) (hv : Vis X.env.scope x := by first | exact Or.inl rfl | exact Or.inr (Or.inl rfl) | exact Or.inr (Or.inr rfl)) (hd : (x == ("__debug__" : Str)) = false := by decide)
    (hcd : (x == ("__classdict__" : Str)) = false := by decide) (hs : swapsWith e (some (.Attribute (.Name x px) f pos')) pos.line X.env = pure false := by rfl) : PSi cl Wx X (.Assign [.Attribute (.Name x px) f pos'] e pos) (stO i cs f fe) := by
  refine ⟨fun pins s σ H D I ⟨G, ρ, S, q⟩ => (ps_fld (pe_var hN hv hd hcd) he hs).run pins s σ H D I ?_⟩
  unfold stO at q
  split at q
  · rename_i c ns l el
    obtain ⟨h, q⟩ := ite_run q
    obtain ⟨a, dx, fs, h0, h1, h2, h3, h4, h5⟩ := S.obj i c ns l el
    obtain ⟨c1, c2⟩ := hc c (by simpa using h.1)
    refine ⟨G, ρ, S, (fe ρ).mono (fun w q v H' S' k r => ?_) (fun e q => exE_of_okS (D := D) q) q⟩
    have h3' := k a _ h3 (S.noDl h1)
    have h5' := h5.keep (S.kp k)
    have hnf : f ∉ fs.map (·.1) := by rw [h4]; simpa using h.2.1
    refine ⟨_, h2, a, cl c, dx, fs, rfl, h3', c1, c2, by rw [← List.length_map (·.1), h4]; exact h.2.2, ?_⟩
    rw [putF_new hnf]
    obtain ⟨S2, k2⟩ := S'.chgObj (i := i) (ns' := ns ++ [f]) (ws' := l ++ [w]) (fs' := fs ++ [(f, v)]) el h1 h3' (by simp [h4]) (by simpa using h5'.append (.cons r .nil))
    exact q _ _ _ S2 ((S'.kp' k).trans k2)
  · exact q.elim
theorem psi_never {st : Stmt} : PSi cl Wx X st (fun _ => M.bad) := ⟨fun pins s σ H D I ⟨G, ρ, S, q⟩ => q.elim⟩
theorem pssi_never {st : List Stmt} : PSsi cl Wx X st (fun _ => M.bad) := ⟨fun pins s σ H D I ⟨G, ρ, S, q⟩ => q.elim⟩
end
end Sh


namespace Sh
open PySem PySem.Spec PyProof.Rows L2
section
variable (K : PySem.W.Frag) (cl : Cl)
def okN (Av : Addr → Prop) (dl : Option (Addr × Addr)) (H : Hp) (c : Nat) (x dx : Addr) (Q : Hp → Prop) (r : List Str × List W) : Prop :=
  ∀ H' fs, (∀ a o, H a = some o → ¬ isDl dl a → a ≠ x → H' a = some o) → dealInv dl H' → H' x = some (.ins (cl c) dx fs) → fs.map (·.1) = r.1 → Reps K cl (fun b => Av b ∨ b = x) dl H' r.2 (fs.map (·.2)) → Q H'
def exN' (Av : Addr → Prop) (dl : Option (Addr × Addr)) (H : Hp) (x : Addr) (E : XK) (e : Exn) : Prop := ∀ c d H', (∀ a o, H a = some o → ¬ isDl dl a → a ≠ x → H' a = some o) → dealInv dl H' → XRep K cl Av dl H' e c d → E c d H'
end
def FnN (P : Program) (w : World) (K : PySem.W.Frag) (mg : Str → Option Value) (base : Heap) (cl : Cl) (c : Nat) (k : Nat) (f : Addr) (ks : List Str) (F : List W → List W → M (List Str × List W)) : Prop :=
  ∀ (A : Around) (outer : List Env) (s : Shared) (H : Hp) (us zs : List Value) (vs ys : List V) (Q : Hp → Prop) (E : XK) (Av : Addr → Prop) (dl : Option (Addr × Addr)) (ws kws : List W) (x dx : Addr), Room k A → A.guards = some [] → Env0 P w K mg base A outer s H →
    Vals vs us → Vals ys zs → zs.length = ks.length → Reps K cl (fun b => Av b ∨ b = x) dl H ws vs → Reps K cl (fun b => Av b ∨ b = x) dl H kws ys → Fr0 Av dl H → ¬ Av x → H x = some (.ins (cl c) dx []) → (F ws kws).run (okN K cl Av dl H c x dx Q) (exN' K cl Av dl H x E) →
    codeAny (model P w) A (.call (.ref f) ⟨.ref x :: us, ks.zip zs⟩) (CR (CX P w) outer P w H s (fun v H' => v = .non ∧ Q H') E) s
def startN (N c : Nat) (ws : List W) : List Sl := .obj c [] [] :: (ws.map .v ++ List.replicate (N - (ws.length + 1)) .no)
def objOf (ρ : List Sl) : M (List Str × List W) := match (ρ[(0 : Nat)]? : Option Sl) with
  | some (Sl.obj _ ns l) => pure (ns, l)
  | _ => M.bad
def endN : Fl → M (List Str × List W)
  | .next ρ => objOf ρ
  | .exc e _ => M.throw e
  | _ => M.bad
def bodyN (N c : Nat) (g : List Sl → M Fl) (ws : List W) : M (List Str × List W) := (g (startN N c ws)).elim endN (fun _ => M.bad)
section
variable {P : Program} {w : World} {K : PySem.W.Frag} {mg : Str → Option Value} {base : Heap} {cl : Cl} {Av : Addr → Prop} {dl : Option (Addr × Addr)} {H : Hp} {x dx : Addr}
theorem startN_get {N c : Nat} {ws : List W} {i : Nat} {sl : Sl} (e : (startN N c ws)[i + 1]? = some sl) (h : sl ≠ .no) : ∃ w, ws[i]? = some w ∧ sl = .v w := by
  unfold startN at e
  rw [List.getElem?_cons_succ] at e
  by_cases hi : i < ws.length
  · rw [List.getElem?_append_left (by simpa using hi), List.getElem?_map, List.getElem?_eq_getElem hi] at e
    exact ⟨ws[i], by simp [hi], (Option.some.inj e).symm⟩
  · rw [List.getElem?_append_right (by simpa using hi), List.getElem?_replicate] at e
    split at e
    · exact (h (Option.some.inj e).symm).elim
    · cases e
def gN (H : Hp) (Av : Addr → Prop) (dl : Option (Addr × Addr)) (c : Nat) (x dx : Addr) : Gd := ⟨fun b => if b = x then none else H b, Av, fun i => if i = 0 then some x else none, dl, [], some (x, c, dx)⟩
theorem gN_Av {c : Nat} {b : Addr} : (gN H Av dl c x dx).Av b ↔ Av b ∨ b = x := by
  unfold Gd.Av gN
  constructor
  · rintro ((h | h) | ⟨i, h⟩)
    · exact .inl h
    · cases h
    · by_cases hi : i = 0
      · simp [hi] at h; exact .inr h.symm
      · simp [hi] at h
  · rintro (h | h)
    · exact .inl (.inl h)
    · exact .inr ⟨0, by simp [h]⟩
theorem SR.startN {N : List Str} {c : Nat} {ws : List W} {vs : List V} (r : Reps K cl (fun b => Av b ∨ b = x) dl H ws vs) (f : Fr0 Av dl H) (hl : vs.length + 1 ≤ N.length) (nx : ¬ Av x) (hx : H x = some (.ins (cl c) dx [])) :
    SR K cl (gN H Av dl c x dx) (Sh.startN N.length c ws) (L2.start N (.ref x :: vs)) H := by
  have ndx : ¬ isDl dl x := fun z => nx (f.dlA x z)
  have oa0 : ∀ {i a}, (gN H Av dl c x dx).oa i = some a → i = 0 ∧ a = x := fun {i a} h => by
    by_cases hi : i = 0
    · simp [gN, hi] at h; exact ⟨hi, h.symm⟩
    · simp [gN, hi] at h
  have kpx : Kp (fun b => Av b ∨ b = x) (gN H Av dl c x dx).Av H H := ⟨fun _ _ _ e => e, fun a _ z _ => gN_Av.mp z⟩
  refine ⟨?_, fun i w e => ?_, fun i ws' e => ?_, fun i c' ns ws' e => ?_, fun i a e => ?_, fun i j a e e' => ?_, fun i a e => ?_, fun a e => ?_, fun i a e h => ?_, fun a o e n => ?_, fun a h => ?_, fun a h => ?_, f.dlA, f.deal, fun j e q => (by
    cases j with
    | zero => cases q
    | succ j =>
      obtain ⟨_, _, z⟩ := startN_get q (by simp)
      cases z)⟩
  · unfold L2.start Sh.startN
    simp [r.length]
  · cases i with
    | zero => cases e
    | succ i =>
      obtain ⟨w', h1, h2⟩ := startN_get e (by simp)
      cases h2
      obtain ⟨v, h3, h4⟩ := r.get h1
      exact ⟨v, start_get (by simpa using h3), h4.keep kpx⟩
  · cases i with
    | zero => cases e
    | succ i =>
      obtain ⟨w', h1, h2⟩ := startN_get e (by simp)
      cases h2
  · cases i with
    | zero =>
      cases e
      exact ⟨x, dx, [], rfl, rfl, start_get rfl, hx, rfl, .nil⟩
    | succ i =>
      obtain ⟨w', h1, h2⟩ := startN_get e (by simp)
      cases h2
  · obtain ⟨rfl, rfl⟩ := oa0 e
    rfl
  · rw [(oa0 e).1, (oa0 e').1]
  · obtain ⟨rfl, rfl⟩ := oa0 e
    simp [gN]
  · cases e
  · cases h
  · have e : (if a = x then none else H a) = some o := e
    split at e
    · cases e
    · exact e
  · rcases gN_Av.mp h with h | h
    · exact f.trk a h
    · subst h; exact ⟨_, hx⟩
  · have ne : a ≠ x := fun q => nx (q ▸ h)
    obtain ⟨o, q⟩ := f.trk a h
    exact ⟨o, by show (if a = x then none else H a) = some o; rw [if_neg ne]; exact q⟩
theorem bodyN_reads {X : Cx} {N : List Str} {c : Nat} {body : List Stmt} {g : List Sl → M Fl} {ws : List W} {vs : List V} {Q : Hp → Prop} {E : XK} (hb : PSsi cl (fun c d _ H => E c d H) X body g) (r : Reps X.K cl (fun b => Av b ∨ b = x) dl H ws vs) (f : Fr0 Av dl H) (hl : vs.length + 1 ≤ N.length)
    (nx : ¬ Av x) (hx : H x = some (.ins (cl c) dx []))
    (q : (bodyN N.length c g ws).run (okN X.K cl Av dl H c x dx Q) (exN' X.K cl Av dl H x E)) : ∃ t, PSs X body t ∧ t { nx := fun _ H' => V.non = V.non ∧ Q H', rt := fun v H' => v = .non ∧ Q H' } (L2.start N (.ref x :: vs)) H := by
  refine ⟨_, hb, gN H Av dl c x dx, Sh.startN N.length c ws, SR.startN r f hl nx hx, ?_⟩
  refine M.mono _ (fun fl q => ?_) (fun e z => z) q
  cases fl with
  | next ρ' =>
    intro oa σ' H' S k
    refine ⟨rfl, ?_⟩
    have q : (objOf ρ').run (okN X.K cl Av dl H c x dx Q) (exN' X.K cl Av dl H x E) := q
    unfold objOf at q
    split at q
    · rename_i c' ns l el
      obtain ⟨a, dx', fs, h0, h1, h2, h3, h4, h5⟩ := S.obj 0 c' ns l el
      cases h0
      refine q H' fs (fun a o e n ne => S.keep a o (by show (if a = x then none else H a) = some o; rw [if_neg ne]; exact e) n) S.deal h3 h4 (h5.keep ⟨fun _ _ _ e => e, fun b _ z _ => ?_⟩)
      rcases z with z | z
      · exact .inl (.inl z)
      · subst z; exact .inr ⟨0, h1⟩
    · exact q.elim
  | ret w => exact q.elim
  | brk ρ' => exact q.elim
  | cont ρ' => exact q.elim
  | exc e ρ' => exact fun oa c d σ' H' S k xr => q c d H' (fun a o e n ne => S.keep a o (by show (if a = x then none else H a) = some o; rw [if_neg ne]; exact e) n) S.deal (xr.sub fun a h => .inl (.inl h))
variable {k : Nat} {f : Addr} {name qual : Str} {params : Arguments} {body : List Stmt} {scope : Scope} {dV kV doc pm cdv ct oc : Value} {an od : Option Addr} {osl : Array (Option Value)} {N ps ks : List Str}
def bindN (n : Nat) (ds : List W) (π : List Nat) (F : List W → M (List Str × List W)) (ws kws : List W) : M (List Str × List W) := if ws.length = n then F (sel (ws ++ kws ++ ds) π) else M.bad
structure ShapeN (K : PySem.W.Frag) (cl : Cl) (fd : FuncData) (ps : List Str) (n : Nat) (ks : List Str) (ds : List W) (π : List Nat) : Prop where
  len : ∀ {α : Type} (l : List α), l.length = n + ks.length + ds.length → (sel l π).length + 1 = ps.length
  to : ∃ dvs dus, (∀ Av dl H, Reps K cl Av dl H ds dvs) ∧ Vals dvs dus ∧ ∀ (s : Shared) (u : Value) (us zs : List Value), K.In s.heap → us.length = n → zs.length = ks.length → BindsTo s fd ⟨u :: us, ks.zip zs⟩ (ps.zip (u :: sel (us ++ zs ++ dus) π))
theorem fnN_of {c n : Nat} {ds : List W} {π : List Nat} {g : List Sl → M Fl} (lk : K.lookup f = some ⟨oc, od, .func (PySem.W.fnOf name qual params body scope dV kV doc pm an cdv ct), osl⟩) (hcd : PySem.W.codeIn K cdv qual = true) (S : FnScope N ps scope)
    (sh : ShapeN K cl (PySem.W.fnOf name qual params body scope dV kV doc pm an cdv ct) ps n ks ds π)
    (hbody : ∀ (A : Around) (outer : List Env) (s : Shared) (H : Hp) (E : XK), Room k (A.deeper (envOfC qual scope s.heap.objs.size f cdv)) → A.guards = some [] →
      PSsi cl (fun c d _ H => E c d H) (cxOf (CX P w) P w K mg base N qual scope f cdv A outer s H E) body g) : FnN P w K mg base cl c (k + 1) f ks (bindN n ds π (bodyN N.length c g)) := by
  intro A outer s H us zs vs ys Q E Av dl ws kws x dx hr hg e0 rv rz lz r1 r2 fr nx hx q
  obtain ⟨hn, q⟩ := ite_run q
  obtain ⟨dvs, dus, d1, d2, hto⟩ := sh.to
  have KX : K.In s.heap := e0.mod.kin.keeps fun b o e => (e0.bs b o e).1
  have hl1 : us.length = n := by rw [← rv.length, ← r1.length]; exact hn
  have rr : Reps K cl (fun b => Av b ∨ b = x) dl H (ws ++ kws ++ ds) (vs ++ ys ++ dvs) := (r1.append r2).append (d1 _ _ _)
  have vv : Vals (vs ++ ys ++ dvs) (us ++ zs ++ dus) := (rv.append rz).append d2
  have hlen : (vs ++ ys ++ dvs).length = n + ks.length + ds.length := by
    rw [List.length_append, List.length_append, rv.length, rz.length, hl1, lz, ← (d1 Av dl H).length]
  have hps := sh.len _ hlen
  have hN : ps.length ≤ N.length := by have := congrArg List.length S.pre; rw [List.length_take] at this; omega
  refine StX.run_bnd lk hcd S hr e0 (G := fun xs H2 => xs = .ref x :: Sh.sel (vs ++ ys ++ dvs) π ∧ H2 = H) (fun A' Ex Q' h => hto s (.ref x) us zs KX hl1 lz _ _ _ _ ?_) ?_
  · exact h s H (V.ref x :: Sh.sel (vs ++ ys ++ dvs) π) _ e0 Un.refl rfl (fun _ _ z => z) (.cons rfl (vals_sel vv π)) (by rw [List.length_cons]; exact hps) ⟨rfl, rfl⟩
  · rintro s2 H2 xs ⟨rfl, rfl⟩ hr'
    exact bodyN_reads (hbody A outer s2 _ E hr' hg) (rr.sel π) fr (by rw [hps]; exact hN) nx hx q
def bindStar (F : List W → M (List Str × List W)) (ws kws : List W) : M (List Str × List W) := if ws.length ≤ sizeLine then F (kws ++ [.tup ws]) else M.bad
theorem fnN_star {c : Nat} {p0 pv : Str} {g : List Sl → M Fl} (lk : K.lookup f = some ⟨oc, od, .func (PySem.W.fnOf name qual params body scope dV kV doc pm an cdv ct), osl⟩) (hcd : PySem.W.codeIn K cdv qual = true) (S : FnScope N (p0 :: (ks ++ [pv])) scope)
    (hb : ∀ (u : Value) (us zs : List Value), zs.length = ks.length → bindArgs (PySem.W.fnOf name qual params body scope dV kV doc pm an cdv ct) ⟨u :: us, ks.zip zs⟩ = (newTuple us >>= fun t => pure ((p0, u) :: (ks.zip zs ++ [(pv, t)]))))
    (hbody : ∀ (A : Around) (outer : List Env) (s : Shared) (H : Hp) (E : XK), Room k (A.deeper (envOfC qual scope s.heap.objs.size f cdv)) → A.guards = some [] →
      PSsi cl (fun c d _ H => E c d H) (cxOf (CX P w) P w K mg base N qual scope f cdv A outer s H E) body g) : FnN P w K mg base cl c (k + 1) f ks (bindStar (bodyN N.length c g)) := by
  intro A outer s H us zs vs ys Q E Av dl ws kws x dx hr hg e0 rv rz lz r1 r2 fr nx hx q
  obtain ⟨hz, q⟩ := ite_run q
  have hN : (p0 :: (ks ++ [pv])).length ≤ N.length := by have := congrArg List.length S.pre; rw [List.length_take] at this; omega
  have hn : H s.heap.objs.size = none := e0.hok.fresh (Nat.le_refl _)
  have hzv : vs.length ≤ sizeLine := by rw [← r1.length]; exact hz
  have hzu : us.length ≤ sizeLine := by rw [← rv.length]; exact hzv
  have ly : ys.length = ks.length := rz.length.trans lz
  refine StX.run_bnd lk hcd S hr e0 (G := fun xs H2 => ∃ p, H p = none ∧ xs = .ref x :: (ys ++ [.ref p]) ∧ H2 = upd H p (.tup vs)) (fun A' Ex Q' h => ?_) ?_
  · rw [hb _ us zs lz]
    refine wpAny_bind (wpAny_newTuple (wpAny_pure ?_) hzu)
    have new : ObjOk P w (upd H s.heap.objs.size (.tup vs)) (s.heap.push ({ cls := .type "tuple", data := .seq us.toArray } : Obj)) s.heap.objs.size (.tup vs) := ⟨hzv, us, rv, _, Heap.get?_push_size _ rfl, rfl, _, rfl⟩
    have un := StX.un_laid (fs := frs outer) (s := s) (o := ({ cls := .type "tuple", data := .seq us.toArray } : Obj)) (u := .tup vs) hn
    have z := h _ _ (V.ref x :: (ys ++ [V.ref s.heap.objs.size])) (Value.ref x :: (zs ++ [Value.ref s.heap.objs.size])) (StX.env0_laid e0 new) un rfl (fun e s' => StX.cxUp outer s H _ _ E e s' un (fun b o q => Heap.get?_push_of_some _ q) rfl)
      (.cons rfl (rz.append (.cons rfl .nil))) (by simp [ly]) ⟨_, hn, rfl, rfl⟩
    rw [List.zip_cons_cons, List.zip_append lz.symm] at z
    exact z
  · rintro s2 H2 xs ⟨p, np, rfl, rfl⟩ hr'
    have fr' : Fr0 Av dl (upd H p (.tup vs)) := ⟨fun a h => let ⟨o, q⟩ := fr.trk a h; ⟨o, upd_grow np a o q⟩, fr.dlA, fr.deal.grow (upd_grow np)⟩
    have kp : Kp (fun b => Av b ∨ b = x) (fun b => Av b ∨ b = x) H (upd H p (.tup vs)) := ⟨fun a o _ e => upd_grow np a o e, fun _ _ z _ => z⟩
    have npx : ¬ (Av p ∨ p = x) := fun z => z.elim (fun z => by obtain ⟨o, q⟩ := fr.trk p z; rw [np] at q; cases q) fun z => by subst z; rw [np] at hx; cases hx
    refine bodyN_reads (hbody A outer s2 _ E hr' hg) ((r2.keep kp).append (.cons (.tup (.inl ⟨upd_same, npx⟩) hzv (r1.keep kp)) .nil)) fr' (by simp only [List.length_cons, List.length_append, ly] at hN ⊢; omega) nx (upd_grow np _ _ hx) (M.mono _ (fun r q H' fs k1 d1 h1 h2 h3 => ?_) (fun e q c d H' k1 d1 xr => ?_) q)
    · exact q H' fs (fun a o e n ne => k1 a o (upd_grow np a o e) n ne) d1 h1 h2 h3
    · exact q c d H' (fun a o e n ne => k1 a o (upd_grow np a o e) n ne) d1 xr
end
end Sh


namespace Sh
open PySem PySem.Spec PyProof.Rows L2
theorem guards_make {A : Around} {C : Addr} {us : List Value} {kw : List (Str × Value)} : (A.under (.builtin "type.__call__" ⟨.ref C :: us, kw⟩)).guards = A.guards := by
  first | rfl | simp [Around.under, Code.guards, Code.isGuard, guardIds, pushGuards]
section
variable {X : Cx} {cl : Cl} {Wx : WX} {k c : Nat} {f : Addr} {ks : List Str} {F : List W → List W → M (List Str × List W)} {x : Str} {p pos : Pos} {e : Expr} {es : List Expr} {kws : List Keyword} {fa : List Sl → M W} {fs fk : List Sl → M (List W)}
def insM (c : Nat) (m : M (List Str × List W)) : M W := m >>= fun r => pure (.ins c r.1 r.2)
theorem run_fnN {pins : List (Addr × Obj)} {G : Gd} {ρ : List Sl} {σ : L2.St} {H : Hp} {s : Shared} {Q : VK} {us zs : List Value} {vs ys : List V} {ws kws : List W} (Mk : L2.Mk X.K (cl c) f) (hF : FnN X.prog X.w X.K X.mg X.base cl c k f ks F) (hr : Room (k + 1) X.A) (hg : X.A.guards = some []) (tk : Takes X Wx)
    (I : L2.Inv X pins σ H s) (S : SR X.K cl G ρ σ H) (rv : Vals vs us) (rz : Vals ys zs) (lz : zs.length = ks.length) (r1 : Reps X.K cl G.Av G.dl H ws vs) (r2 : Reps X.K cl G.Av G.dl H kws ys) (q : (insM c (F ws kws)).run (okE X.K cl G ρ σ H Q) (exE X.K cl G ρ σ H Wx)) :
    wpAny (model X.prog X.w) X.A (call (.ref (cl c)) us (ks.zip zs)) (EP X pins σ Q) X.xe s := by
  have n1 : H s.heap.objs.size = none := I.hok.fresh (Nat.le_refl _)
  have n2 : H (s.heap.objs.size + 1) = none := I.hok.fresh (Nat.le_succ _)
  have hne : s.heap.objs.size ≠ s.heap.objs.size + 1 := Nat.ne_of_lt (Nat.lt_succ_self _)
  have I2 := Inv.made (C := cl c) I
  generalize hdx : s.heap.objs.size = dx at *
  generalize hx : dx + 1 = y at *
  have gr : ∀ a o, H a = some o → upd (upd H dx (.own y)) y (.ins (cl c) dx []) a = some o := fun a o e => by
    rw [upd_ne (ne_of_none e n2), upd_ne (ne_of_none e n1)]; exact e
  have ny : ¬ G.Av y := S.fresh n2
  have S2 := S.grow gr
  have kp : Kp G.Av (fun b => G.Av b ∨ b = y) H (upd (upd H dx (.own y)) y (.ins (cl c) dx [])) := ⟨fun a o _ e => gr a o e, fun a o z e => z.elim id fun z => by subst z; rw [n2] at e; cases e⟩
  have fr2 : Fr0 G.Av G.dl (upd (upd H dx (.own y)) y (.ins (cl c) dx [])) := S2.fr0
  have keepH : ∀ H', (∀ a o, (upd (upd H dx (.own y)) y (.ins (cl c) dx [])) a = some o → ¬ isDl G.dl a → a ≠ y → H' a = some o) → Keep G.dl H H' := fun H' k a o e n => k a o (gr a o e) n (ne_of_none e n2)
  subst hx
  subst hdx
  refine wpAny_call (make_map (f := f) I.kIn Mk.makes Mk.init (beq_iff_eq.mp Mk.fn) (codeAny_mono (hF _ X.stack _ _ us zs vs ys (fun H' => Q (.ref (s.heap.objs.size + 1)) H') (fun c d H' => Wx c d σ H') G.Av G.dl ws kws (s.heap.objs.size + 1) s.heap.objs.size (hr.make (cl c) us (ks.zip zs)) (guards_make.trans hg)
    (I2.env0.make (cl c) us (ks.zip zs)) rv rz lz (r1.keep kp) (r2.keep kp) fr2 ny upd_same ?_) fun r s' hq => ?_))
  · refine M.mono _ (fun r q H' fs k1 d1 h1 h2 h3 => ?_) (fun e q c d H' k1 d1 xr => ?_) q
    · exact q _ H' (S.kept (keepH H' k1) d1) (keepH H' k1) (.ins h1 ny h2 (h3.keep ⟨fun _ _ _ e => e, fun b _ z _ => .inl z⟩))
    · exact q c d H' (S.kept (keepH H' k1) d1) (keepH H' k1) xr
  · cases r with
    | error e => exact tk _ _ (XE.of_call I2 (fun _ _ _ z => z) hq)
    | ok fl =>
      cases fl with
      | ret u =>
        obtain ⟨v, H', I3, rv, ev, q3⟩ := I2.after hq
        subst ev
        exact ⟨rv, ⟨V.ref (s.heap.objs.size + 1), H', I3, rfl, q3⟩⟩
      | next => exact False.elim hq
      | brk => exact False.elim hq
      | cont => exact False.elim hq
theorem pi_make (Mk : L2.Mk X.K (cl c) f) (hF : FnN X.prog X.w X.K X.mg X.base cl c k f [] F) (hr : Room (k + 1) X.A) (hgd : X.A.guards = some []) (tk : Takes X Wx) (hm : X.mg x = some (.ref (cl c))) (ha : PAi cl Wx X (e :: es) fs) (hg : Gl X x := by rfl)
    (hdb : (x == ("__debug__" : Str)) = false := by decide) (he : starEach (e :: es) X.env = (false, eval e X.env) :: starEach es X.env := by rfl) (hpl : (backTo pos (starEach es X.env)).any (·.1) = false := by rfl) :
    PEi cl Wx X (.Call (.Name x p) (e :: es) [] pos) (callF (fun ws kws => insM c (F ws kws)) fs aNil) := by
  refine ⟨fun pins s σ H Q I ⟨G, ρ, S, q⟩ => wpAny_Call_Name_kw (ld_glob I hg hm ?_ hdb)⟩
  refine PySem.W.callWith_K (h₀ := X.base) I.ok.mod.kin Mk.kp (thn (ha.run pos pins s σ H (fun vs H1 => ∀ us s1, L2.Inv X pins σ H1 s1 → Vals vs us → wpAny (model X.prog X.w) X.A (call (.ref (cl c)) ([] ++ us)) (EP X pins σ Q) X.xe s1) I ⟨G, ρ, S, (fs ρ).mono (fun ws q vs H' S' k r => ?_) (fun _ z => z) q⟩) fun us s1 ⟨vs, H1, I1, r, q⟩ => ⟨I1.kIn, q us s1 I1 r⟩) he hpl
  intro us s1 I1 rv
  exact run_fnN (zs := []) (ys := []) Mk hF hr hgd tk I1 S' rv .nil rfl r .nil ((insM c (F ws [])).mono (fun w q => okE_of k q) (fun _ z => exE_of k z) q)
theorem pi_make0 (Mk : L2.Mk X.K (cl c) f) (hF : FnN X.prog X.w X.K X.mg X.base cl c k f [] F) (hr : Room (k + 1) X.A) (hgd : X.A.guards = some []) (tk : Takes X Wx) (hm : X.mg x = some (.ref (cl c))) (hg : Gl X x := by rfl)
    (hdb : (x == ("__debug__" : Str)) = false := by decide) : PEi cl Wx X (.Call (.Name x p) [] [] pos) (callF (fun ws kws => insM c (F ws kws)) aNil aNil) := by
  refine ⟨fun pins s σ H Q I ⟨G, ρ, S, q⟩ => wpAny_Call_Name_kw (ld_glob I hg hm ?_ hdb)⟩
  exact PySem.W.callWith_K0 I.kIn Mk.kp (run_fnN (us := []) (vs := []) (zs := []) (ys := []) Mk hF hr hgd tk I S .nil .nil rfl .nil .nil q)
theorem pi_makeK0 (Mk : L2.Mk X.K (cl c) f) (hF : FnN X.prog X.w X.K X.mg X.base cl c k f ks F) (hr : Room (k + 1) X.A) (hgd : X.A.guards = some []) (tk : Takes X Wx) (hm : X.mg x = some (.ref (cl c))) (hkw : PKi cl Wx X kws fk) (hg : Gl X x := by rfl)
    (hall : (backToKw pos (keywordEach kws X.env)).all (·.1.isSome) = true := by rfl) (hks : (backToKw pos (keywordEach kws X.env)).filterMap (·.1) = ks := by rfl) (hdb : (x == ("__debug__" : Str)) = false := by decide)
    (hpl : ((backTo pos (starEach [] X.env)).any (·.1) || (backToKw pos (keywordEach kws X.env)).any (·.1.isNone)) = false := by rfl) :
    PEi cl Wx X (.Call (.Name x p) [] kws pos) (callF (fun ws kws => if kws.length = ks.length then insM c (F ws kws) else M.bad) aNil fk) := by
  refine ⟨fun pins s σ H Q I ⟨G, ρ, S, q⟩ => wpAny_Call_Name_kw (ld_glob I hg hm ?_ hdb)⟩
  refine PySem.W.callWith_KW0 (h₀ := X.base) I.ok.mod.kin Mk.kp hall ?_ hpl
  refine thn (hkw.run pos pins s σ H (fun ys H2 => ∀ zs s2, L2.Inv X pins σ H2 s2 → Vals ys zs → wpAny (model X.prog X.w) X.A (call (.ref (cl c)) ([] ++ []) (ks.zip zs)) (EP X pins σ Q) X.xe s2) I ⟨G, ρ, S, (fk ρ).mono (fun kws q ys H2 S2 k2 r2 => ?_) (fun _ z => z) q⟩) fun zs s2 ⟨ys, H2, I2, rz, q⟩ => ⟨I2.kIn, by rw [hks]; exact q zs s2 I2 rz⟩
  intro zs s2 I2 rz
  obtain ⟨hl, q⟩ := ite_run q
  exact run_fnN (us := []) (vs := []) (ws := []) Mk hF hr hgd tk I2 S2 .nil rz (by rw [← rz.length, ← r2.length]; exact hl) .nil r2 ((insM c (F [] _)).mono (fun w q => okE_of k2 q) (fun _ z => exE_of k2 z) q)
theorem pi_makeK (Mk : L2.Mk X.K (cl c) f) (hF : FnN X.prog X.w X.K X.mg X.base cl c k f ks F) (hr : Room (k + 1) X.A) (hgd : X.A.guards = some []) (tk : Takes X Wx) (hm : X.mg x = some (.ref (cl c))) (ha : PAi cl Wx X (e :: es) fs) (hkw : PKi cl Wx X kws fk) (hg : Gl X x := by rfl)
    (hall : (backToKw pos (keywordEach kws X.env)).all (·.1.isSome) = true := by rfl) (hks : (backToKw pos (keywordEach kws X.env)).filterMap (·.1) = ks := by rfl) (hdb : (x == ("__debug__" : Str)) = false := by decide)
    (he : starEach (e :: es) X.env = (false, eval e X.env) :: starEach es X.env := by rfl) (hpl : ((backTo pos (starEach (e :: es) X.env)).any (·.1) || (backToKw pos (keywordEach kws X.env)).any (·.1.isNone)) = false := by rfl) :
    PEi cl Wx X (.Call (.Name x p) (e :: es) kws pos) (callF (fun ws kws => if kws.length = ks.length then insM c (F ws kws) else M.bad) fs fk) := by
  refine ⟨fun pins s σ H Q I ⟨G, ρ, S, q⟩ => wpAny_Call_Name_kw (ld_glob I hg hm ?_ hdb)⟩
  refine PySem.W.callWith_KW (h₀ := X.base) I.ok.mod.kin Mk.kp hall (thn (ha.run pos pins s σ H (fun vs H1 => ∀ us s1, L2.Inv X pins σ H1 s1 → Vals vs us → wpAny (model X.prog X.w) X.A (evalAll ((backToKw pos (keywordEach kws X.env)).map (·.2))) (fun zs s2 => X.K.In s2.heap ∧ wpAny (model X.prog X.w) X.A (call (.ref (cl c)) ([] ++ us) (ks.zip zs)) (EP X pins σ Q) X.xe s2) X.xe s1) I
    ⟨G, ρ, S, (fs ρ).mono (fun ws q vs H' S' k r => ?_) (fun _ z => z) q⟩) fun us s1 ⟨vs, H1, I1, r, q⟩ => by rw [hks]; exact q us s1 I1 r) hpl he
  intro us s1 I1 rv
  refine thn (hkw.run pos pins s1 σ H' (fun ys H2 => ∀ zs s2, L2.Inv X pins σ H2 s2 → Vals ys zs → wpAny (model X.prog X.w) X.A (call (.ref (cl c)) ([] ++ us) (ks.zip zs)) (EP X pins σ Q) X.xe s2) I1 ⟨G, ρ, S', (fk ρ).mono (fun kws q ys H2 S2 k2 r2 => ?_) (fun _ z => exE_of k z) q⟩) fun zs s2 ⟨ys, H2, I2, rz, q⟩ => ⟨I2.kIn, q zs s2 I2 rz⟩
  intro zs s2 I2 rz
  obtain ⟨hl, q⟩ := ite_run q
  exact run_fnN Mk hF hr hgd tk I2 S2 rv rz (by rw [← rz.length, ← r2.length]; exact hl) (r.keep (S'.kp k2)) r2 ((insM c (F ws _)).mono (fun w q => okE_of (k.trans k2) q) (fun _ z => exE_of (k.trans k2) z) q)
end
end Sh


namespace Sh
open PySem PySem.Spec PyProof.Rows L2
section
variable {M : Model} {A : Around} {E : Value → Shared → Prop} {s : Shared} {K : PySem.W.Frag}
theorem evalArgs_sk {f : Value} {x : Sem Value} {pos : Pos} {kw : List (Option Str × Sem Value)} {Q : Args → Shared → Prop} (hall : kw.all (·.1.isSome) = true)
    (h : wpAny M A x (fun v s₁ => wpAny M A (evalAll (kw.map (·.2))) (fun zs s₂ => PySem.W.StarOf M A E v (fun vs s₃ => Q ⟨vs, (kw.filterMap (·.1)).zip zs⟩ s₃) s₂) E s₁) E s) :
    wpAny M A (evalArgs f true [(true, (do let v ← x; standAt pos; pure v))] kw) Q E s := by
  unfold evalArgs
  refine wpAny_bind (wpAny_bind (thn h fun v s₁ h₁ => wpAny_bind (wpAny_standAt (wpAny_pure ?_))))
  refine wpAny_bind (wpAny_pure ?_)
  refine wpAny_holding ?_
  simp only [hall, if_true]
  refine wpAny_bind (thn h₁ fun zs s₂ h₂ => ?_)
  unfold PySem.W.StarOf at h₂
  refine wpAny_bind (wpAny_bind (thn h₂ fun b s₃ h₃ => ?_))
  obtain ⟨rfl, h₃⟩ := h₃
  simp only [Bool.false_eq_true, if_false]
  first
    | exact wpAny_holding (thn h₃ fun vs s₄ h₄ => wpAny_pure h₄)
    | exact wpAny_bind (wpAny_pure (wpAny_holding (thn h₃ fun vs s₄ h₄ => wpAny_pure h₄)))
theorem callWith_sk {env : Env} {f : Value} {first : List Value} {e : Expr} {p pos : Pos} {kws : List Keyword} {Q : Value → Shared → Prop} (hk : PySem.W.keepIn K f = true) (hall : (backToKw pos (keywordEach kws env)).all (·.1.isSome) = true)
    (h : wpAny M A (eval e env) (fun v s₁ => wpAny M A (evalAll ((backToKw pos (keywordEach kws env)).map (·.2))) (fun zs s₂ => PySem.W.StarOf M A E v (fun vs s₃ => K.In s₃.heap ∧ wpAny M A (call f (first ++ vs) (((backToKw pos (keywordEach kws env)).filterMap (·.1)).zip zs)) Q E s₃) s₂) E s₁) E s)
    (he : starEach [.Starred e p] env = [(true, eval e env)] := by rfl) :
    wpAny M A (callWith pos f first (backTo pos (starEach [.Starred e p] env)) (backToKw pos (keywordEach kws env))) Q E s := by
  rw [he]
  show wpAny M A (callWith pos f first [(true, (do let v ← eval e env; standAt pos; pure v))] (backToKw pos (keywordEach kws env))) Q E s
  unfold callWith
  refine wpAny_bind (wpAny_holding (thn (evalArgs_sk (Q := fun a s₃ => K.In s₃.heap ∧ wpAny M A (call f (first ++ a.pos) a.kw) Q E s₃) hall h) fun a s₁ h₁ => wpAny_bind (wpAny_standAt ?_)))
  obtain ⟨k, hk', L⟩ := PySem.W.keeps_K hk _ h₁.1
  simp only [List.any_cons, Bool.true_or]
  refine wpAny_bind (L.here ?_)
  have tail : ∀ {t : Sem Value}, wpAny M A t Q E s₁ → wpAny M A (t >>= fun r => holding [r] point >>= fun _ => pure r) Q E s₁ :=
    fun ht => wpAny_bind (thn ht fun r s₂ hr => wpAny_bind (wpAny_holding (wpAny_point (wpAny_pure hr))))
  have marked (mk : Value) : wpAny M A (callMarked mk f (first ++ a.pos) a.kw) Q E s₁ := by unfold callMarked; exact Calls.wpAny_keep h₁.2
  rcases hk' with rfl | rfl | rfl <;> dsimp only <;> first | exact tail (marked _) | exact tail (wpAny_operating h₁.2)
end
section
variable {X : Cx} {cl : Cl} {Wx : WX} {k c : Nat} {f : Addr} {ks : List Str} {F : List W → List W → M (List Str × List W)} {x : Str} {p p2 pos : Pos} {e : Expr} {kws : List Keyword} {fa : List Sl → M W} {fk : List Sl → M (List W)}
def callSK (F : List W → List W → M W) (fa : List Sl → M W) (fk : List Sl → M (List W)) (ρ : List Sl) : M W := fa ρ >>= fun w => fk ρ >>= fun kws => M.ofO (items w) >>= fun ws => F ws kws
theorem pi_makeSK (Mk : L2.Mk X.K (cl c) f) (hF : FnN X.prog X.w X.K X.mg X.base cl c k f ks F) (hr : Room (k + 1) X.A) (hgd : X.A.guards = some []) (tk : Takes X Wx) (hm : X.mg x = some (.ref (cl c))) (ha : PEb cl Wx X e fa) (hkw : PKi cl Wx X kws fk) (hg : Gl X x := by rfl)
    (hall : (backToKw pos (keywordEach kws X.env)).all (·.1.isSome) = true := by rfl) (hks : (backToKw pos (keywordEach kws X.env)).filterMap (·.1) = ks := by rfl) (hdb : (x == ("__debug__" : Str)) = false := by decide)
    (he : starEach [.Starred e p2] X.env = [(true, eval e X.env)] := by rfl) :
    PEi cl Wx X (.Call (.Name x p) [.Starred e p2] kws pos) (callSK (fun ws kws => if kws.length = ks.length then insM c (F ws kws) else M.bad) fa fk) := by
  refine ⟨fun pins s σ H Q I ⟨G, ρ, S, q⟩ => wpAny_Call_Name_kw (ld_glob I hg hm ?_ hdb)⟩
  refine callWith_sk (K := X.K) Mk.kp hall (thn (PE.run ha pins s σ H (fun v H1 => ∀ u s1, L2.Inv X pins σ H1 s1 → RelV v u → wpAny (model X.prog X.w) X.A (evalAll ((backToKw pos (keywordEach kws X.env)).map (·.2))) (fun zs s2 => PySem.W.StarOf (model X.prog X.w) X.A X.xe u (fun us s3 => X.K.In s3.heap ∧ wpAny (model X.prog X.w) X.A (call (.ref (cl c)) ([] ++ us) (ks.zip zs)) (EP X pins σ Q) X.xe s3) s2) X.xe s1) I
    ⟨G, ρ, S, (fa ρ).mono (fun w q v H' S' k r => ?_) (fun _ z => z) q⟩) fun u s1 ⟨v, H1, I1, r, q⟩ => by rw [hks]; exact q u s1 I1 r) he
  intro u s1 I1 ru
  refine thn (hkw.run pos pins s1 σ H' (fun ys H2 => ∀ zs s2, L2.Inv X pins σ H2 s2 → Vals ys zs → PySem.W.StarOf (model X.prog X.w) X.A X.xe u (fun us s3 => X.K.In s3.heap ∧ wpAny (model X.prog X.w) X.A (call (.ref (cl c)) ([] ++ us) (ks.zip zs)) (EP X pins σ Q) X.xe s3) s2) I1 ⟨G, ρ, S', (fk ρ).mono (fun kws q ys H2 S2 k2 r2 => ?_) (fun _ z => exE_of k z) q⟩) fun zs s2 ⟨ys, H2, I2, rz, q⟩ => q zs s2 I2 rz
  intro zs s2 I2 rz
  obtain ⟨l, el, q⟩ := ofO_run q
  obtain ⟨hl, q⟩ := ite_run q
  obtain ⟨a, vs, rfl, h1, h2, h3⟩ := items_ok (r.keep S' k2) el
  obtain rfl : u = Value.ref a := ru
  refine StX.star_any I2 h1 fun us s3 I3 rv => ⟨I3.kIn, ?_⟩
  exact run_fnN Mk hF hr hgd tk I3 S2 rv rz (by rw [← rz.length, ← r2.length]; exact hl) h2 r2 ((insM c (F l _)).mono (fun w q => okE_of (k.trans k2) q) (fun _ z => exE_of (k.trans k2) z) q)
end
end Sh


namespace Sh
open PySem PySem.Spec PyProof.Rows L2
structure IC (K : PySem.W.Frag) (C : Addr) : Prop where
  cl : Cls K C
  ha : PySem.W.findIn K (.ref C) "__class__" = some (some (.builtin "object.__class__"))
  hn : PySem.W.specialIn K (.builtin "object.__class__") "__get__" = some (some (.builtin "getset_descriptor.__get__"))
  htk : PySem.W.takesIn K (.builtin "object.__class__") = some true
  hm : PySem.W.mroIn K C (.type "object") = some true
def tyN : W → Option String
  | .non => some "NoneType"
  | .bl _ => some "bool"
  | .int _ => some "int"
  | .str _ => some "str"
  | .tup _ => some "tuple"
  | .lst _ => some "list"
  | _ => none
abbrev tyNs : List String := ["NoneType", "bool", "int", "str", "tuple", "list"]
def bbT (t n : String) : Bool := t == n || (t == "bool" && n == "int")
structure Isi (K : PySem.W.Frag) (cl : Cl) (own : List Nat) (sub : Nat → Nat → Bool) : Prop where
  ic : ∀ c ∈ own, IC K (cl c)
  oo : ∀ c ∈ own, ∀ c' ∈ own, PySem.W.kitOne K (.ref (cl c)) (.ref (cl c')) = some (sub c c')
  ot : ∀ c ∈ own, ∀ n ∈ tyNs, PySem.W.kitOne K (.ref (cl c)) (.type n) = some false
  to : ∀ c ∈ own, ∀ t ∈ tyNs, PySem.W.kitOne K (.type t) (.ref (cl c)) = some false
def isiW (own : List Nat) (sub : Nat → Nat → Bool) (x y : W) : Option W := match y with
  | .ty n => if tyNs.contains n = true then (match tyN x with
    | some t => some (.bl (bbT t n))
    | none => match x with
      | .ins c _ _ => if own.contains c = true then some (.bl false) else none
      | _ => none) else none
  | .cls c' => if own.contains c' = true then (match tyN x with
    | some _ => some (.bl false)
    | none => match x with
      | .ins c _ _ => if own.contains c = true then some (.bl (sub c c')) else none
      | _ => none) else none
  | _ => none
theorem kit_bb {K : PySem.W.Frag} : ∀ t ∈ tyNs, ∀ n ∈ tyNs, PySem.W.kitOne K (.type t) (.type n) = some (bbT t n) := by
  intro t ht n hn
  refine kit_ty ?_
  have : ∀ t ∈ tyNs, ∀ n ∈ tyNs, kitB t n = some (bbT t n) := by decide +kernel
  exact this t ht n hn
section
variable {K : PySem.W.Frag} {cl : Cl} {G : Gd} {H : Hp} {w : W} {v : V}
theorem tyN_mem {t : String} (h : tyN w = some t) : t ∈ tyNs := by cases w <;> first | (cases h; decide) | cases h
theorem tyX_of (r : RepB K cl G H w v) {t : String} (h : tyN w = some t) : TyX K H v (.type t) := by
  cases w with
  | non => cases r.non_; cases h; exact .base .non
  | bl b => cases r.bl_; cases h; exact .base (.bl b)
  | int b => cases r.int_; cases h; exact .base (.int b)
  | str b => cases r.str_; cases h; exact .base (.str b)
  | tup l =>
    obtain ⟨a, vs, rfl, h1, _, _⟩ := r.tup_
    cases h
    rcases h1 with ⟨h1, _⟩ | h1
    · exact .base (.tup h1)
    · rcases h1 (fun _ => none) with (h2 | ⟨_, h2⟩) | ⟨o, its, n, h2, h3, _⟩
      · cases h2
      · cases h2
      · exact .kTuple h2 h3
  | lst l =>
    obtain ⟨a, vs, rfl, h1, _, _⟩ := r.lst_
    cases h
    exact .base (.lst h1)
  | _ => cases h
theorem tyX_ins {c : Nat} {ns : List Str} {l : List W} (r : RepB K cl G H (.ins c ns l) v) (i : IC K (cl c)) : TyX K H v (.ref (cl c)) := by
  obtain ⟨a, dx, fs, rfl, h1, _⟩ := r.ins_.ins_
  exact .base (.ins h1 i.cl i.ha i.hn i.htk i.hm)
theorem RepB.ty_ {n : String} (r : RepB K cl G H (.ty n) v) : v = .ty n := by
  rcases r with r | ⟨_, _, _, e, _⟩
  · cases r; rfl
  · cases e
theorem RepB.cls_ {c : Nat} (r : RepB K cl G H (.cls c) v) : v = .ref (cl c) := by
  rcases r with r | ⟨_, _, _, e, _⟩
  · cases r; rfl
  · cases e
end
section
variable {X : Cx} {cl : Cl} {Wx : WX} {k : Nat} {e o a b : Expr} {fa fb : List Sl → M W} {f : Addr} {x : Str} {pos p : Pos}
theorem cw_isi {own : List Nat} {sub : Nat → Nat → Bool} (T : Isi X.K cl own sub) : CW2 cl X (.builtin "isinstance") (isiW own sub) := by
  refine ⟨_, call_isi, fun {G ρ σ H wx wy x y w Q} S rx ry e q => ?_⟩
  unfold isiW at e
  split at e
  · rename_i n
    split at e
    · rename_i hn
      have hn : n ∈ tyNs := by simpa using hn
      cases ry.ty_
      split at e
      · rename_i t ht
        cases e
        exact ⟨x, .ty n, .type t, .type n, _, rfl, .ty n, tyX_of rx ht, kit_bb t (tyN_mem ht) n hn, q _ H S .refl .bl⟩
      · split at e
        · rename_i c ns l _
          split at e
          · rename_i hc
            have hc : c ∈ own := by simpa using hc
            cases e
            exact ⟨x, .ty n, .ref (cl c), .type n, _, rfl, .ty n, tyX_ins rx (T.ic c hc), T.ot c hc n hn, q _ H S .refl .bl⟩
          · cases e
        · cases e
    · cases e
  · rename_i c'
    split at e
    · rename_i hn
      have hn : c' ∈ own := by simpa using hn
      cases ry.cls_
      split at e
      · rename_i t ht
        cases e
        exact ⟨x, .ref (cl c'), .type t, .ref (cl c'), _, rfl, .own _, tyX_of rx ht, T.to c' hn t (tyN_mem ht), q _ H S .refl .bl⟩
      · split at e
        · rename_i c ns l _
          split at e
          · rename_i hc
            have hc : c ∈ own := by simpa using hc
            cases e
            exact ⟨x, .ref (cl c'), .ref (cl c), .ref (cl c'), _, rfl, .own _, tyX_ins rx (T.ic c hc), T.oo c hc c' hn, q _ H S .refl .bl⟩
          · cases e
        · cases e
    · cases e
  · cases e
theorem pi_tyN {n : String} (hm : X.mg x = none) (hv : bootBuiltins x = some (.type n)) (hg : Gl X x := by rfl) (hn : x ≠ "__name__" := by decide) (hd : (x == ("__debug__" : Str)) = false := by decide) : PEi cl Wx X (.Name x pos) (cw (.ty n)) :=
  pi_c (pe_bltn (v := .ty n) hg hm hv rfl hn hd) fun _ _ _ => .ty
theorem pi_cls {c : Nat} (hm : X.mg x = some (.ref (cl c))) (hg : Gl X x := by rfl) (hd : (x == ("__debug__" : Str)) = false := by decide) : PEi cl Wx X (.Name x pos) (cw (.cls c)) :=
  pi_c (pe_glob (v := .ref (cl c)) hg hm rfl hd) fun _ _ _ => .cls
end
end Sh


namespace Sh
open PySem PySem.Spec PyProof.Rows L2
section
variable {X : Cx} {cl : Cl} {Wx : WX} {k : Nat} {e o a b : Expr} {fa fb : List Sl → M W} {f : Addr} {x : Str} {pos p : Pos} {F : List W → List W → M W} {c : Nat}
theorem run_in {A : Around} {E : Value → Shared → Prop} {pins : List (Addr × Obj)} {σ : L2.St} {H : Hp} {s : Shared} {Av : Addr → Prop} {dl : Option (Addr × Addr)} {Q : VK} {us : List Value} {vs : List V} {ws : List W} (hF : FnA X.prog X.w X.K X.mg X.base cl k f [] F) (hr : Room k A) (hg : A.guards = some [])
    (I : L2.Inv X pins σ H s) (e0 : Env0 X.prog X.w X.K X.mg X.base A X.stack s H) (rv : Vals vs us) (r1 : Reps X.K cl Av dl H ws vs) (fr : Fr0 Av dl H) (q : (F ws []).run (okC X.K cl Av dl H Q) (fun _ => False)) :
    wpAny (model X.prog X.w) A (call (.ref f) us) (EP X pins σ Q) E s := by
  refine wpAny_call (codeAny_mono (hF A X.stack s H us [] vs [] Q (fun _ _ _ => False) Av dl ws [] hr hg e0 rv .nil rfl r1 .nil fr ((F ws []).mono (fun _ z => z) (fun _ z => z.elim) q)) fun r s' hq => ?_)
  cases r with
  | error e =>
    obtain ⟨_, _, _, _, _, _, _, _, _, _, _, _, z⟩ := hq
    exact z.elim
  | ok fl =>
    cases fl with
    | ret u => exact I.after hq
    | next => exact False.elim hq
    | brk => exact False.elim hq
    | cont => exact False.elim hq
def rF (K : PySem.W.Frag) (cl : Cl) (F : List W → List W → M W) (vs : List V) (H : Hp) (Q : VK) : Prop := ∃ Av dl ws, Reps K cl Av dl H ws vs ∧ Fr0 Av dl H ∧ (F ws []).run (okC K cl Av dl H Q) (fun _ => False)
def CW1M (cl : Cl) (X : Cx) (f : Value) (g : W → M W) : Prop :=
  ∃ r : List V → Hp → VK → Prop, CallR X f r ∧ ∀ {G ρ σ H wx x Q}, SR X.K cl G ρ σ H → RepB X.K cl G H wx x → (g wx).run (okE X.K cl G ρ σ H Q) (fun _ => False) → r [x] H Q
def OpWM (cl : Cl) (X : Cx) (f : Value → Value → Sem Value) (g : W → W → M W) : Prop :=
  ∃ r : R2, OpR X f r ∧ ∀ {G ρ σ H wx wy x y Q}, SR X.K cl G ρ σ H → RepB X.K cl G H wx x → RepB X.K cl G H wy y → (g wx wy).run (okE X.K cl G ρ σ H Q) (fun _ => False) → r x y H Q
theorem OpW.m {f : Value → Value → Sem Value} {g : W → W → Option W} (h : OpW cl X f g) : OpWM cl X f (fun x y => M.ofO (g x y)) := by
  obtain ⟨r, h1, h2⟩ := h
  refine ⟨r, h1, fun S rx ry q => ?_⟩
  obtain ⟨w, e, q⟩ := ofO_run q
  exact h2 S rx ry e q
theorem CW1.m {f : Value} {g : W → Option W} (h : CW1 cl X f g) : CW1M cl X f (fun x => M.ofO (g x)) := by
  obtain ⟨r, h1, h2⟩ := h
  refine ⟨r, h1, fun S rx q => ?_⟩
  obtain ⟨w, e, q⟩ := ofO_run q
  exact h2 S rx e q
theorem OpWM.ite {f : Value → Value → Sem Value} {g g' : W → W → M W} {C : W → W → Bool} (h : OpWM cl X f g) (h' : OpWM cl X f g') : OpWM cl X f (fun x y => if C x y = true then g x y else g' x y) := by
  obtain ⟨r, h1, h2⟩ := h
  obtain ⟨r', h1', h2'⟩ := h'
  refine ⟨fun x y H Q => r x y H Q ∨ r' x y H Q, fun pins s σ H x y v u Q I rx ry q => q.elim (h1 pins s σ H x y v u Q I rx ry) (h1' pins s σ H x y v u Q I rx ry), fun {G ρ σ H wx wy x y Q} S rx ry q => ?_⟩
  replace q : (if C wx wy = true then g wx wy else g' wx wy).run (okE X.K cl G ρ σ H Q) (fun _ => False) := q
  by_cases hc : C wx wy = true
  · rw [if_pos hc] at q; exact .inl (h2 S rx ry q)
  · rw [if_neg hc] at q; exact .inr (h2' S rx ry q)
theorem CW1M.ite {f : Value} {g g' : W → M W} {C : W → Bool} (h : CW1M cl X f g) (h' : CW1M cl X f g') : CW1M cl X f (fun x => if C x = true then g x else g' x) := by
  obtain ⟨r, h1, h2⟩ := h
  obtain ⟨r', h1', h2'⟩ := h'
  refine ⟨fun xs H Q => r xs H Q ∨ r' xs H Q, fun pins s σ H xs us Q I rx q => q.elim (h1 pins s σ H xs us Q I rx) (h1' pins s σ H xs us Q I rx), fun {G ρ σ H wx x Q} S rx q => ?_⟩
  replace q : (if C wx = true then g wx else g' wx).run (okE X.K cl G ρ σ H Q) (fun _ => False) := q
  by_cases hc : C wx = true
  · rw [if_pos hc] at q; exact .inl (h2 S rx q)
  · rw [if_neg hc] at q; exact .inr (h2' S rx q)
def binM (g : W → W → M W) (fa fb : List Sl → M W) (ρ : List Sl) : M W := fa ρ >>= fun x => fb ρ >>= fun y => noX (g x y)
theorem pi_cmpM {op : CmpOp} {g : W → W → M W} (ho : OpWM cl X (compareOp op) g) (ha : PEb cl Wx X a fa) (hb : PEb cl Wx X b fb) (hm : behindInMarks op b = false) : PEi cl Wx X (.Compare a [op] [b] pos) (binM g fa fb) := by
  obtain ⟨r, h1, h2⟩ := ho
  refine ⟨fun pins s σ H Q I ⟨G, ρ, S, q⟩ => (pe_cmpR h1 ha hb hm).run pins s σ H Q I (two_run S q fun wx wy x y H' S' k rx ry q => ?_)⟩
  exact h2 S' rx ry (noX_ex q)
theorem pt_cmpM {op : CmpOp} {g : W → W → M W} (ho : OpWM cl X (compareOp op) g) (ha : PEb cl Wx X a fa) (hb : PEb cl Wx X b fb) (hm : behindInMarks op b = false) : PTi cl Wx X (.Compare a [op] [b] pos) (tst (binM g fa fb)) := by
  obtain ⟨r, h1, h2⟩ := ho
  refine ⟨fun pins s σ H Q I ⟨G, ρ, S, q⟩ => (pt_cmpR h1 ha hb hm).run pins s σ H Q I ?_⟩
  have q' : (fa ρ >>= fun x => fb ρ >>= fun y => noX (g x y)).run (okE X.K cl G ρ σ H fun v H' => ∃ k, v = .bl k ∧ Q k H') (exE X.K cl G ρ σ H Wx) := (binM g fa fb ρ).mono (fun w q v H' S' k r => by
    obtain ⟨b, e, q⟩ := ofO_run q
    cases asB_some e
    cases r.bl_
    exact ⟨b, rfl, q H' S' k⟩) (fun _ z => z) q
  refine two_run S q' fun wx wy x y H' S' k rx ry q => ?_
  exact h2 S' rx ry (noX_ex q)
def un1M (g : W → M W) (f : List Sl → M W) (ρ : List Sl) : M W := f ρ >>= fun w => noX (g w)
theorem pi_callB1M {id : String} {g : W → M W} (hc : CW1M cl X (.builtin id) g) (hg : Gl X x) (hm : X.mg x = none) (hv : bootBuiltins x = some (.builtin id)) (ha : PEb cl Wx X e fa) (hn : x ≠ "__name__" := by decide) (hdb : (x == ("__debug__" : Str)) = false := by decide)
    (he : starEach [e] X.env = (false, eval e X.env) :: starEach [] X.env := by rfl) : PEi cl Wx X (.Call (.Name x p) [e] [] pos) (un1M g fa) := by
  obtain ⟨r, h1, h2⟩ := hc
  refine ⟨fun pins s σ H Q I ⟨G, ρ, S, q⟩ => (pe_callB h1 hg hm hv (pa_cons ha pa_nil he) hn hdb he).run pins s σ H Q I ⟨G, ρ, S, (fa ρ).mono (fun w q v H1 S1 k1 r1 => ?_) (fun _ z => z) q⟩⟩
  exact h2 S1 r1 ((g w).mono (fun w q => okE_of k1 q) (fun _ z => z) (noX_ex q))
theorem pi_callT1M {T : String} {g : W → M W} (hc : CW1M cl X (.type T) g) (hg : Gl X x) (hm : X.mg x = none) (hv : bootBuiltins x = some (.type T)) (ha : PEb cl Wx X e fa) (hn : x ≠ "__name__" := by decide) (hdb : (x == ("__debug__" : Str)) = false := by decide)
    (he : starEach [e] X.env = (false, eval e X.env) :: starEach [] X.env := by rfl) : PEi cl Wx X (.Call (.Name x p) [e] [] pos) (un1M g fa) := by
  obtain ⟨r, h1, h2⟩ := hc
  refine ⟨fun pins s σ H Q I ⟨G, ρ, S, q⟩ => (pe_callTy h1 hg hm hv (pa_cons ha pa_nil he) hn hdb he).run pins s σ H Q I ⟨G, ρ, S, (fa ρ).mono (fun w q v H1 S1 k1 r1 => ?_) (fun _ z => z) q⟩⟩
  exact h2 S1 r1 ((g w).mono (fun w q => okE_of k1 q) (fun _ z => z) (noX_ex q))
theorem insAt {pins : List (Addr × Obj)} {σ : L2.St} {H : Hp} {s : Shared} {a C dx : Addr} {fs : List (Str × V)} (I : L2.Inv X pins σ H s) (h : H a = some (.ins C dx fs)) : ∃ ox od, PySem.W.InstAt s.heap a ox C od := by
  obtain ⟨ox, od, h, _⟩ := StX.insC_at (X := X) I (.inr ⟨dx, fs, h⟩)
  exact ⟨ox, od, h⟩
structure Sp1 (K : PySem.W.Frag) (C : Addr) (m : Str) (f : Addr) : Prop where
  at_ : PySem.W.findIn K (.ref C) m = some (some (.ref f))
  fn : PySem.W.isFn K (.ref f) = true
theorem okC_of {K : PySem.W.Frag} {G : Gd} {ρ : List Sl} {σ : L2.St} {H : Hp} {Q : VK} {w : W} (S : SR K cl G ρ σ H) (q : okE K cl G ρ σ H Q w) : okC K cl G.Av G.dl H Q w := fun v H' k d r => q v H' (S.kept k d) k r
def isIns (c : Nat) : W → Bool
  | .ins c' _ _ => c' == c
  | _ => false
theorem isIns_ok {K : PySem.W.Frag} {G : Gd} {H : Hp} {w : W} {v : V} (h : isIns c w = true) (r : RepB K cl G H w v) : Rep K cl G.Av G.dl H w v ∧ ∃ a dx fs, v = .ref a ∧ H a = some (.ins (cl c) dx fs) := by
  cases w with
  | ins c' ns l =>
    have e : c' = c := by simpa [isIns] using h
    subst e
    obtain ⟨a, dx, fs, h1, h2, _⟩ := r.ins_.ins_
    exact ⟨r.ins_, a, dx, fs, h1, h2⟩
  | _ => cases h
def asLen : W → M W
  | .int n => if 0 ≤ n ∧ n < 2 ^ 63 then pure (.int n) else M.bad
  | _ => M.bad
theorem cw_lenO (hF : FnA X.prog X.w X.K X.mg X.base cl k f [] F) (hr : Room (k + 1) X.A) (hg : X.A.guards = some []) (T : Sp1 X.K (cl c) "__len__" f) : CW1M cl X (.builtin "len") (fun x => if isIns c x = true then F [x] [] >>= asLen else M.bad) := by
  refine ⟨fun xs H Q => ∃ a dx fs, xs = [.ref a] ∧ H a = some (.ins (cl c) dx fs) ∧ rF X.K cl F [.ref a] H fun v H' => ∃ n : Int, v = .int n ∧ 0 ≤ n ∧ n < 2 ^ 63 ∧ Q (.int n) H', fun pins s σ H xs us Q I rx q => ?_, fun {G ρ σ H wx x Q} S rx q => ?_⟩
  · obtain ⟨a, dx, fs, rfl, h1, Av, dl, ws, r1, fr, q⟩ := q
    obtain ⟨u, rfl, ru⟩ := vals1 rx
    obtain rfl : u = Value.ref a := ru
    obtain ⟨ox, od, i⟩ := insAt I h1
    obtain ⟨m, Fr⟩ := I.fr
    refine PySem.W.len_K Fr I.mod.kin i T.at_ T.fn (thn (run_in (σ := σ) (pins := pins) (us := [.ref a]) (vs := [.ref a]) hF hr.in1 hg I I.env0.in1 (.cons rfl .nil) r1 fr q) fun v s' ⟨w, H', I', rw, n, e, h0, h63, q⟩ => ?_)
    subst e
    obtain ⟨t, rfl⟩ := rw
    exact ⟨⟨h0, h63⟩, ⟨.int n, H', I'.tok _, ⟨_, rfl⟩, q⟩⟩
  · obtain ⟨hc, q⟩ := ite_run q
    obtain ⟨rr, a, dx, fs, rfl, h1⟩ := isIns_ok hc rx
    refine ⟨a, dx, fs, rfl, h1, G.Av, G.dl, [wx], .cons rr .nil, S.fr0, (F [wx] []).mono (fun w q v H' k d r => ?_) (fun _ z => z) q⟩
    cases w with
    | int n =>
      obtain ⟨hn, q⟩ := ite_run q
      exact ⟨n, r.int_, hn.1, hn.2, q _ H' (S.kept k d) k .int⟩
    | _ => exact q.elim
def TyL (K : PySem.W.Frag) (H : Hp) (v : V) (t : Value) : Prop := match v with
  | .non => t = .type "NoneType"
  | .bl _ => t = .type "bool"
  | .int _ => t = .type "int"
  | .str _ => t = .type "str"
  | .ref a => (t = .type "list" ∧ ∃ xs, SqL K H a xs) ∨ (t = .type "tuple" ∧ ∃ xs, SqT K H a xs) ∨ ∃ C dx fs, t = .ref C ∧ H a = some (.ins C dx fs)
  | _ => False
theorem TyL.looks {M : Model} {pins : List (Addr × Obj)} {σ : L2.St} {H : Hp} {s : Shared} {v : V} {u t : Value} (I : L2.Inv X pins σ H s) (h : TyL X.K H v t) (r : RelV v u) : PySem.W.Looks M s.heap (typeOf u) t := by
  cases v with
  | non => cases r; cases h; exact .now
  | bl b => cases r; cases h; exact .now
  | int i => obtain ⟨_, rfl⟩ := r; cases h; exact .now
  | str i => obtain ⟨_, rfl⟩ := r; cases h; exact .now
  | byt _ => exact h.elim
  | flt _ => exact h.elim
  | ty _ => exact h.elim
  | ref a =>
    obtain rfl : u = Value.ref a := r
    rcases h with ⟨rfl, xs, h⟩ | ⟨rfl, xs, h⟩ | ⟨C, dx, fs, rfl, h⟩
    · obtain ⟨its, _, ⟨o, n, e, c1, _⟩, _⟩ := I.list h
      exact c1 ▸ (show PySem.W.Looks M s.heap (typeOf (.ref a)) o.cls from (PySem.W.Looks.ld e).andThen .now)
    · obtain ⟨its, _, ⟨o, e, c1, _⟩, _⟩ := I.tuple h
      exact c1 ▸ (show PySem.W.Looks M s.heap (typeOf (.ref a)) o.cls from (PySem.W.Looks.ld e).andThen .now)
    · obtain ⟨ox, od, i⟩ := insAt I h
      exact i.type
def asBool : W → M W
  | .bl b => pure (.bl b)
  | _ => M.bad
def negBool : W → M W
  | .bl b => pure (.bl (!b))
  | _ => M.bad
structure EqC (K : PySem.W.Frag) (C f : Addr) : Prop where
  eq : Sp1 K C "__eq__" f
  ne : PySem.W.findIn K (.ref C) "__ne__" = some (some (.builtin "object.__ne__"))
  ob : PySem.W.subIn K (.ref C) (.type "object") = some true
def tyT (cl : Cl) : W → Option Value
  | .ins c _ _ => some (.ref (cl c))
  | w => (tyN w).map .type
theorem tyL_of {K : PySem.W.Frag} {G : Gd} {H : Hp} {w : W} {v : V} {t : Value} (r : RepB K cl G H w v) (h : tyT cl w = some t) : TyL K H v t := by
  cases w with
  | non => cases r.non_; cases h; rfl
  | bl b => cases r.bl_; cases h; rfl
  | int b => cases r.int_; cases h; rfl
  | str b => cases r.str_; cases h; rfl
  | tup l =>
    obtain ⟨a, vs, rfl, h1, _, _⟩ := r.tup_
    cases h
    exact .inr (.inl ⟨rfl, vs, h1.sq⟩)
  | lst l =>
    obtain ⟨a, vs, rfl, h1, _, _⟩ := r.lst_
    cases h
    exact .inl ⟨rfl, vs, .inl (.inl h1)⟩
  | ins c ns l =>
    obtain ⟨a, dx, fs, rfl, h1, _⟩ := r.ins_.ins_
    cases h
    exact .inr (.inr ⟨_, dx, fs, rfl, h1⟩)
  | _ => cases h
def NF (K : PySem.W.Frag) (cl : Cl) (c : Nat) (os : List Nat) : Prop := (∀ t ∈ tyNs, PySem.W.notFirst K (cl c) (.type t) = true) ∧ ∀ c' ∈ os, PySem.W.notFirst K (cl c) (.ref (cl c')) = true
def seen (os : List Nat) : W → Bool
  | .ins c _ _ => os.contains c
  | w => (tyN w).isSome
theorem seen_nf {K : PySem.W.Frag} {os : List Nat} {w : W} (n : NF K cl c os) (h : seen os w = true) : ∃ t, tyT cl w = some t ∧ PySem.W.notFirst K (cl c) t = true := by
  cases w with
  | ins c' ns l => exact ⟨_, rfl, n.2 c' (by simpa [seen] using h)⟩
  | non => exact ⟨_, rfl, n.1 _ (by decide)⟩
  | bl b => exact ⟨_, rfl, n.1 _ (by decide)⟩
  | int b => exact ⟨_, rfl, n.1 _ (by decide)⟩
  | str b => exact ⟨_, rfl, n.1 _ (by decide)⟩
  | tup b => exact ⟨_, rfl, n.1 _ (by decide)⟩
  | lst b => exact ⟨_, rfl, n.1 _ (by decide)⟩
  | cls _ => cases h
  | ty _ => cases h
  | opq _ => cases h
  | ro _ => cases h
theorem ow_eqO {os : List Nat} (hF : FnA X.prog X.w X.K X.mg X.base cl k f [] F) (hr : Room k X.A) (hg : X.A.guards = some []) (T : EqC X.K (cl c) f) (n : NF X.K cl c os) :
    OpWM cl X (compareOp .Eq) (fun x y => if (isIns c x && seen os y && !isIns c y || isIns c x && isIns c y && os.contains c) = true then (match y with | .lst _ => M.bad | _ => F [x, y] [] >>= asBool) else M.bad) := by
  refine ⟨fun x y H Q => ∃ a dx fs t, x = .ref a ∧ H a = some (.ins (cl c) dx fs) ∧ TyL X.K H y t ∧ PySem.W.notFirst X.K (cl c) t = true ∧ rF X.K cl F [.ref a, y] H fun v H' => ∃ b, v = .bl b ∧ Q (.bl b) H', fun pins s σ H x y v u Q I rx ry q => ?_, fun {G ρ σ H wx wy x y Q} S rx ry q => ?_⟩
  · obtain ⟨a, dx, fs, t, rfl, h1, h2, h3, Av, dl, ws, r1, fr, q⟩ := q
    obtain rfl : v = Value.ref a := rx
    obtain ⟨ox, od, i⟩ := insAt I h1
    obtain ⟨m, Fr⟩ := I.fr
    show wpAny _ _ (richCompare .Eq (.ref a) u) _ _ _
    refine PySem.W.cmp_K (by have := hr.un; omega) Fr I.mod.kin i (h2.looks I ry) h3 T.eq.at_ T.eq.fn (thn (run_in (σ := σ) (pins := pins) (us := [.ref a, u]) (vs := [.ref a, y]) hF hr hg I I.env0 (.cons rfl (.cons ry .nil)) r1 fr q) fun v s' ⟨w, H', I', rw, b, e, q⟩ => ?_)
    subst e
    obtain rfl : v = Value.bool b := rw
    exact ⟨.bl b, H', I', rfl, q⟩
  · obtain ⟨hc, q⟩ := ite_run q
    have hx : isIns c wx = true := by
      simp only [Bool.or_eq_true, Bool.and_eq_true] at hc
      rcases hc with h | h
      · exact h.1.1
      · exact h.1.1
    have hy : seen os wy = true := by
      simp only [Bool.or_eq_true, Bool.and_eq_true] at hc
      rcases hc with h | h
      · exact h.1.2
      · cases wy with
        | ins c' ns l =>
          have e : c' = c := by simpa [isIns] using h.1.2
          subst e
          exact h.2
        | _ => cases h.1.2
    obtain ⟨rr, a, dx, fs, rfl, h1⟩ := isIns_ok hx rx
    obtain ⟨t, ht, hn⟩ := seen_nf n hy
    have fin : ∀ ry' : Rep X.K cl G.Av G.dl H wy y, (F [wx, wy] [] >>= asBool).run (okE X.K cl G ρ σ H Q) (fun _ => False) → rF X.K cl F [.ref a, y] H fun v H' => ∃ b, v = .bl b ∧ Q (.bl b) H' := fun ry' q =>
      ⟨G.Av, G.dl, [wx, wy], .cons rr (.cons ry' .nil), S.fr0, (F [wx, wy] []).mono (fun w q v H' k d r => by
        cases w with
        | bl b => exact ⟨b, r.bl_, q _ H' (S.kept k d) k .bl⟩
        | _ => exact q.elim) (fun _ z => z) q⟩
    refine ⟨a, dx, fs, t, rfl, h1, tyL_of ry ht, hn, ?_⟩
    rcases ry with ry | ⟨ws, _, _, rfl, _⟩
    · cases wy <;> first | exact q.elim | exact fin ry q
    · exact q.elim
end
end Sh


namespace Sh
open PySem PySem.Spec PyProof.Rows L2
section
variable {prog : Program} {w : World} {A : Around} {E : Value → Shared → Prop} {s : Shared} {K : PySem.W.Frag} {x C f : Addr} {ox : Obj} {od : Option Obj} {b tb : Value}
theorem ne_bind (self : Value) : bindSpecial (.builtin "object.__ne__") self = pure (.builtin "object.__ne__", [self]) := by
  first
    | exact PySem.W.oi_bind self
    | (unfold bindSpecial; kernel_rfl)
theorem spec_bi {M : Model} {self : Value} {name : Str} {id : String} {args : List Value} {Q : Option Value → Shared → Prop} (sp : PySem.W.Looks M s.heap (specialOf self name) (some (.builtin id))) (hb : bindSpecial (.builtin id) self = pure (.builtin id, [self]))
    (hc : wpAny M A (call (.builtin id) ([self] ++ args)) (fun v => Q (some v)) E s) : wpAny M A (callSpecialIfBound? self name args) Q E s := by
  simp only [callSpecialIfBound?, bindSpecialIfBound?]
  refine wpAny_holding (wpAny_bind (wpAny_bind (sp.here (wpAny_bind (wpAny_askSetting (wpAny_ite ?_))))))
  have fin : wpAny M A (call (.builtin id) ([self] ++ args) >>= fun v => pure (some v)) Q E s := wpAny_bind (thn hc fun v s' h' => wpAny_pure h')
  split
  · exact wpAny_bind (wpAny_of_eq hb (wpAny_pure (by exact fin)))
  · exact wpAny_tryCatch (wpAny_bind (wpAny_of_eq hb (wpAny_pure (by exact fin))))
theorem ne_call {Q : Value → Shared → Prop} (hu : A.units + 1 < cLine) (X : K.In s.heap) (I : PySem.W.InstAt s.heap x ox C od) (hs : PySem.W.findIn K (.ref C) "__eq__" = some (some (.ref f))) (hf : PySem.W.isFn K (.ref f) = true) (ho : PySem.W.subIn K (.ref C) (.type "object") = some true)
    (h : wpAny (model prog w) A.in1 (call (.ref f) [.ref x, b]) (fun v s' => ∃ k, v = .bool k ∧ Q (.bool (!k)) s') E s) : wpAny (model prog w) A (call (.builtin "object.__ne__") [.ref x, b]) Q E s := by
  refine wpAny_call (codeAny_call_builtin (by decide +kernel) PySem.F.cmpEntry_ne (@PySem.W.check_slot (model prog w) _ _ _ "object.__ne__" "object" "__ne__" (.ref x) [b] [] _ (by decide +kernel) (by decide +kernel) (I.type.andThen (PySem.W.looks_subIn X ho)) (PySem.F.cmpArgs_ne _ _) ?_))
  unfold Builtin.«object.__ne__»
  refine wpAny_bind (m := slotArgs "__ne__" 1 ⟨[.ref x, b], []⟩) (wpAny_pure ?_)
  refine wpAny_bind (wpAny_cRoomFor hu ?_)
  refine wpAny_bind (m := callSpecialIfBound? (.ref x) (Str.ofString "__eq__") [b]) (PySem.W.ifBound_K X I hs hf (thn h fun v s' ⟨k, e, q⟩ => ?_))
  subst e
  refine wpAny_bind (m := truthy (.bool k)) (wpAny_truthy_bool ?_)
  exact wpAny_pure q
end
section
variable {X : Cx} {cl : Cl} {k : Nat} {f : Addr} {F : List W → List W → M W} {c : Nat}
theorem ow_neO {os : List Nat} (hF : FnA X.prog X.w X.K X.mg X.base cl k f [] F) (hr : Room (k + 1) X.A) (hg : X.A.guards = some []) (T : EqC X.K (cl c) f) (n : NF X.K cl c os) :
    OpWM cl X (compareOp .NotEq) (fun x y => if (isIns c x && seen os y && !isIns c y || isIns c x && isIns c y && os.contains c) = true then (match y with | .lst _ => M.bad | _ => F [x, y] [] >>= negBool) else M.bad) := by
  refine ⟨fun x y H Q => ∃ a dx fs t, x = .ref a ∧ H a = some (.ins (cl c) dx fs) ∧ TyL X.K H y t ∧ PySem.W.notFirst X.K (cl c) t = true ∧ rF X.K cl F [.ref a, y] H fun v H' => ∃ b, v = .bl b ∧ Q (.bl (!b)) H', fun pins s σ H x y v u Q I rx ry q => ?_, fun {G ρ σ H wx wy x y Q} S rx ry q => ?_⟩
  · obtain ⟨a, dx, fs, t, rfl, h1, h2, h3, Av, dl, ws, r1, fr, q⟩ := q
    obtain rfl : v = Value.ref a := rx
    obtain ⟨ox, od, i⟩ := insAt I h1
    have hu : X.A.units + 1 < cLine := by have := hr.un; omega
    have one : wpAny (model X.prog X.w) X.A (tryCompare (.ref a) "__ne__" u) (fun r s' => ∃ v, r = some v ∧ EP X pins σ Q v s') X.xe s := by
      unfold tryCompare
      refine wpAny_bind (spec_bi (i.type.andThen (PySem.W.looks_findIn I.kIn T.ne)) (ne_bind _) (ne_call hu I.kIn i T.eq.at_ T.eq.fn T.ob
        (thn (run_in (σ := σ) (pins := pins) (us := [.ref a, u]) (vs := [.ref a, y]) hF hr.in1 hg I I.env0.in1 (.cons rfl (.cons ry .nil)) r1 fr q) fun v s' ⟨w, H', I', rw, b, e, q⟩ => ?_)))
      subst e
      obtain rfl : v = Value.bool b := rw
      exact ⟨b, rfl, wpAny_pure ⟨_, rfl, .bl (!b), H', I', rfl, q⟩⟩
    show wpAny _ _ (richCompare .NotEq (.ref a) u) _ _ _
    unfold richCompare
    simp only [oneThing_ref]
    refine wpAny_holding (wpAny_bind (wpAny_cRoomFor (by omega) ?_))
    refine wpAny_bind (i.type.here (wpAny_bind ((h2.looks I ry).here ?_)))
    have two : ∀ {t : Sem Value}, wpAny (model X.prog X.w) X.A (tryCompare (.ref a) "__ne__" u >>= fun r => match r with | some v => pure v | none => t) (EP X pins σ Q) X.xe s := fun {t} =>
      wpAny_bind (thn one fun r s' ⟨v, e, q⟩ => by subst e; exact wpAny_pure q)
    split
    · rename_i q
      have e : PySem.W.subIn X.K t (.ref (cl c)) = some false := by
        rcases Bool.or_eq_true_iff.mp h3 with e | e
        · rw [beq_iff_eq.mp e] at q; simp at q
        · exact beq_iff_eq.mp e
      refine wpAny_bind ((PySem.W.looks_subIn I.kIn e).here ?_)
      simp only [Bool.false_eq_true, if_false]
      refine wpAny_bind (thn one fun r s' z => ?_)
      obtain ⟨v, rfl, hq⟩ := z
      exact wpAny_pure hq
    · refine wpAny_bind (wpAny_pure ?_)
      simp only [Bool.false_eq_true, if_false]
      refine wpAny_bind (thn one fun r s' z => ?_)
      obtain ⟨v, rfl, hq⟩ := z
      exact wpAny_pure hq
  · obtain ⟨hc, q⟩ := ite_run q
    have hx : isIns c wx = true := by
      simp only [Bool.or_eq_true, Bool.and_eq_true] at hc
      rcases hc with h | h
      · exact h.1.1
      · exact h.1.1
    have hy : seen os wy = true := by
      simp only [Bool.or_eq_true, Bool.and_eq_true] at hc
      rcases hc with h | h
      · exact h.1.2
      · cases wy with
        | ins c' ns l =>
          have e : c' = c := by simpa [isIns] using h.1.2
          subst e
          exact h.2
        | _ => cases h.1.2
    obtain ⟨rr, a, dx, fs, rfl, h1⟩ := isIns_ok hx rx
    obtain ⟨t, ht, hn⟩ := seen_nf n hy
    have fin : ∀ ry' : Rep X.K cl G.Av G.dl H wy y, (F [wx, wy] [] >>= negBool).run (okE X.K cl G ρ σ H Q) (fun _ => False) → rF X.K cl F [.ref a, y] H fun v H' => ∃ b, v = .bl b ∧ Q (.bl (!b)) H' := fun ry' q =>
      ⟨G.Av, G.dl, [wx, wy], .cons rr (.cons ry' .nil), S.fr0, (F [wx, wy] []).mono (fun w q v H' k d r => by
        cases w with
        | bl b => exact ⟨b, r.bl_, q _ H' (S.kept k d) k .bl⟩
        | _ => exact q.elim) (fun _ z => z) q⟩
    refine ⟨a, dx, fs, t, rfl, h1, tyL_of ry ht, hn, ?_⟩
    rcases ry with ry | ⟨ws, _, _, rfl, _⟩
    · cases wy <;> first | exact q.elim | exact fin ry q
    · exact q.elim
end
end Sh


namespace Sh
open PySem PySem.Spec PyProof.Rows L2
theorem law_end {P : Program} {w : World} {K : PySem.W.Frag} {mg mb : Str → Option Value} {fa a : Addr} {s : Shared} {vs : List Value} {ns : List Int} (KX : K.In s.heap) (gl : s.heap.Ns mainGlobals mg) (bl : s.heap.Ns builtinsNs mb) (bb : ∀ x : Str, x ≠ "__name__" → mb x = bootBuiltins x)
    (lim : s.heap.NoLimit) (gens : s.gens = #[]) (at_ : s.heap.get? a = some { cls := .type "list", data := .seq vs.toArray }) (hi : IntsAre vs ns) (hl : ns.length ≤ sizeLine)
    (run : ∀ (base : Heap) (H : Hp), K.In base → base.Ns mainGlobals mg → Env0 P w K mg base callerA [] s H → L2.Only H → SqL K H a (ns.map V.int) →
      codeAny (model P w) callerA (.call (.ref fa) ⟨[.ref a], []⟩) (CR (CX P w) [] P w H s (fun v _ => v = .bl true) fun _ _ _ => False) s) :
    codeAny (model P w) callerA (.call (.ref fa) ⟨[.ref a], []⟩) (fun r s' => r = .ok (.ret (.bool true)) ∧ OldK s.heap s'.heap ∧ s'.os = s.os ∧ AllBare s'.gens) s := by
  have rv : Vals (ns.map V.int) vs := vals_ints hi
  have go : ∀ H : Hp, L2.Only H → SqL K H a (ns.map V.int) → HOk P w H s.heap → (∀ b, H b ≠ none → b = a ∧ K.lookup a = none) → codeAny (model P w) callerA (.call (.ref fa) ⟨[.ref a], []⟩) (fun r s' => r = .ok (.ret (.bool true)) ∧ OldK s.heap s'.heap ∧ s'.os = s.os ∧ AllBare s'.gens) s := by
    intro H only sq ok alone
    have free : ∀ {b : Addr} {o : Obj}, K.lookup b = some o → H b = none := fun {b o} e => Classical.byContradiction fun n => by
      obtain ⟨rfl, z⟩ := alone b n
      rw [z] at e
      cases e
    have nsFree : ∀ {b : Addr} {m : Str → Option Value}, s.heap.Ns b m → (hidT s.heap H).Ns b m := fun {b m} ⟨o, es, ep, e, d, r⟩ => by
      refine ⟨o, es, ep, hidT_get e (Classical.byContradiction fun n => ?_), d, r⟩
      obtain ⟨rfl, _⟩ := alone b n
      rw [at_] at e
      cases e
      cases (show Data.seq vs.toArray _ = Data.dict es ep from d)
    have kb : K.In (hidT s.heap H) := fun b o e => hidT_get (KX b o e) (free e)
    have md : Mod K mg (hidT s.heap H) := ⟨kb, nsFree gl, ⟨mb, nsFree bl, bb⟩, let ⟨mc, l1, l2⟩ := lim; ⟨mc, nsFree l1, l2⟩⟩
    have e0 : Env0 P w K mg (hidT s.heap H) callerA [] s H := ⟨rfl, md, fun b o => of_hidT, Nat.le_of_eq (hidT_size _ _), trivial, fun b z => (List.not_mem_nil z).elim, ok, .of_eq gens⟩
    refine codeAny_mono (run _ H kb (nsFree gl) e0 only sq) fun r s' h => ?_
    match r, h with
    | .error e, h =>
      obtain ⟨_, _, _, _, _, _, _, _, _, _, _, _, z⟩ := h
      exact z.elim
    | .ok .next, h => exact h.elim
    | .ok .brk, h => exact h.elim
    | .ok .cont, h => exact h.elim
    | .ok (.ret u), h =>
      obtain ⟨v, H', os, bare, un, ok', ru, e⟩ := h
      subst e
      obtain rfl : u = Value.bool true := ru
      refine ⟨rfl, OldK.of_keep fun b o e => ?_, os, bare⟩
      rcases only b with z | ⟨ob, xs, z⟩
      · exact un.keep b o e z (fun y => (List.not_mem_nil y).elim) (by simp)
      · have g1 := (ok b _ z).1
        rw [e] at g1
        cases g1
        exact (ok' b _ (un.frzs b _ _ z)).1
  cases hk : K.lookup a with
  | some o =>
    have e := KX a o hk
    rw [at_] at e
    cases e
    have len : vs.length = ns.length := hi.length
    exact go (fun _ => none) (fun _ => .inl rfl) (.inr ⟨_, vs.toArray, _, hk, rfl, rfl, rfl, by simpa [len] using hl, by simpa using rv⟩) (fun b u z => nomatch z) fun b z => (z rfl).elim
  | none =>
    have hit : ∀ {b : Addr} {u : HO}, (if b = a then some (HO.frz { cls := .type "list", data := .seq vs.toArray } (.lst (ns.map V.int))) else none) = some u → b = a ∧ u = .frz { cls := .type "list", data := .seq vs.toArray } (.lst (ns.map V.int)) := fun {b u} z => by
      by_cases h : b = a
      · rw [if_pos h] at z; exact ⟨h, (Option.some.inj z).symm⟩
      · rw [if_neg h] at z; cases z
    refine go (fun b => if b = a then some (.frz { cls := .type "list", data := .seq vs.toArray } (.lst (ns.map V.int))) else none) (fun b => ?_) (.inl (.inr ⟨_, if_pos rfl⟩)) (fun b u z => ?_) fun b z => ?_
    · by_cases h : b = a
      · exact .inr ⟨_, _, if_pos h⟩
      · exact .inl (if_neg h)
    · obtain ⟨rfl, rfl⟩ := hit z
      exact ⟨at_, by rw [List.length_map]; exact hl, vs, _, rv, at_⟩
    · cases q : (if b = a then some (HO.frz { cls := .type "list", data := .seq vs.toArray } (.lst (ns.map V.int))) else none) with
      | none => exact (z q).elim
      | some u => exact ⟨(hit q).1, hk⟩
end Sh


namespace Sh
open PySem PySem.Spec PyProof.Rows L2
def IsDeal (w : W) : Prop := ∃ (gs : List Int) (m : Int), w = .lst [.lst (gs.map .int), .int m] ∧ (∀ x ∈ gs, 0 ≤ x ∧ x < 2 ^ 1100000) ∧ gs.length ≤ 64 ∧ 0 ≤ m ∧ m < 2147483647
def dealSlots (n i : Nat) : List Sl := (List.replicate n Sl.no).set i (.v (.opq 0))
section
variable {K : PySem.W.Frag} {cl : Cl}
theorem dealSlots_get {n i j : Nat} {sl : Sl} (h : (dealSlots n i)[j]? = some sl) : sl = .no ∨ (i = j ∧ i < n ∧ sl = .v (.opq 0)) := by
  unfold dealSlots at h
  by_cases hj : i = j
  · subst hj
    by_cases hi : i < n
    · rw [List.getElem?_set_self (by simpa using hi)] at h
      exact .inr ⟨rfl, hi, (Option.some.inj h).symm⟩
    · rw [List.getElem?_eq_none (by simpa using hi)] at h
      cases h
  · rw [List.getElem?_set_ne hj, List.getElem?_replicate] at h
    split at h
    · exact .inl (Option.some.inj h).symm
    · cases h
theorem SR.deal_start {H : Hp} {σ : L2.St} {n i : Nat} {d g : Addr} {gs : List Int} {m : Int} (hl : σ.length = n) (hσ : i < n → σ[i]? = some (some (.ref d))) (ne : g ≠ d) (hd : H d = some (.lst [.ref g, .int m])) (hg : H g = some (.lst (gs.map V.int)))
    (h1 : ∀ x ∈ gs, 0 ≤ x ∧ x < 2 ^ 1100000) (h2 : gs.length ≤ 64) (h3 : 0 ≤ m ∧ m < 2147483647) : SR K cl ⟨H, fun b => b = d ∨ b = g, fun _ => none, some (d, g), [], none⟩ (dealSlots n i) σ H := by
  have dl : dealInv (some (d, g)) H := fun d' g' e => by
    cases e
    exact ⟨ne, gs, m, hd, hg, h1, h2, h3.1, h3.2⟩
  have av : ∀ a, Gd.Av ⟨H, fun b => b = d ∨ b = g, fun _ => none, some (d, g), [], none⟩ a → a = d ∨ a = g := fun a h => by
    rcases h with (h | h) | ⟨_, h⟩
    · exact h
    · cases h
    · cases h
  have trk : ∀ a, a = d ∨ a = g → ∃ o, H a = some o := fun a h => h.elim (fun h => ⟨_, h ▸ hd⟩) fun h => ⟨_, h ▸ hg⟩
  refine ⟨by simp [dealSlots, hl], fun j w e => ?_, fun j ws e => ?_, fun j c ns ws e => ?_, fun j a e => (nomatch e), fun j l a e => (nomatch e), fun j a e => (nomatch e), fun a e => (nomatch e), fun j a e => (nomatch e), .refl, fun a h => trk a (av a h), fun a h => trk a h, fun a h => ?_, dl, fun j e q => (by rcases dealSlots_get q with z | ⟨_, _, z⟩ <;> cases z)⟩
  · rcases dealSlots_get e with h | ⟨h, hi, h'⟩
    · cases h
    · cases h'
      subst h
      exact ⟨.ref d, hσ hi, .opq rfl⟩
  · rcases dealSlots_get e with h | ⟨_, _, h⟩ <;> cases h
  · rcases dealSlots_get e with h | ⟨_, _, h⟩ <;> cases h
  · obtain ⟨p, e, h⟩ := h
    cases e
    exact h
theorem law_reads {X : Cx} {N : List Str} {i : Nat} {st : Stmt} {rest : List Stmt} {f0 : List Sl → M W} {g : List Sl → M Fl} {H : Hp} {a : Addr} {ns : List Int} (h0 : PS X st (tAsg (tI X.K cl WF f0) (gName i))) (hr : PSsi cl WF X rest g) (hN : 1 ≤ N.length)
    (only : L2.Only H) (sq : SqL X.K H a (ns.map V.int)) (hl : ns.length ≤ sizeLine)
    (q0 : (f0 (startS N.length [.ro (ns.map .int)])).run IsDeal (fun _ => False)) (q1 : (g (dealSlots N.length i)).run (fun fl => fl = .ret (.bl true)) (fun _ => False)) :
    ∃ t, PSs X (st :: rest) t ∧ t { nx := fun _ H' => (fun v _ => v = V.bl true) V.non H', rt := fun v _ => v = .bl true } (L2.start N [.ref a]) H := by
  refine ⟨_, pss_cons h0 hr, ?_⟩
  have ro : RoAt X.K (fun b => H b ≠ none ∧ b ≠ a) H a (ns.map V.int) := by
    rcases sq with h | h
    · exact .inl ⟨h, fun z => z.2 rfl⟩
    · exact .inr fun _ => .inr h
  have fr : Fr0 (fun b => H b ≠ none ∧ b ≠ a) none H := by
    refine ⟨fun b h => ?_, fun b h => ?_, fun _ _ e => nomatch e⟩
    · cases e : H b with
      | none => exact (h.1 e).elim
      | some o => exact ⟨o, rfl⟩
    · obtain ⟨_, e, _⟩ := h
      cases e
  have S0 := SR.start (K := X.K) (cl := cl) (N := N) (ws := [.ro (ns.map .int)]) (vs := [.ref a]) (.cons (.ro ro (by rw [List.length_map]; exact hl) (reps_ints ns)) .nil) fr hN
  refine ⟨_, _, S0, M.mono _ (fun w q v H1 S1 k1 r1 => ?_) (fun _ z => z.elim) q0⟩
  obtain ⟨gs, m, rfl, p1, p2, p3, p4⟩ := q
  obtain ⟨d, vs, rfl, ⟨hd, nd⟩, _, rr⟩ := r1.lst_
  cases rr with
  | cons ra rb =>
    cases rb with
    | cons rb rc =>
      cases rc
      cases rb.int_
      obtain ⟨gg, us, rfl, ⟨hg, ng⟩, _, ru⟩ := ra.lst_
      cases asInts_ok ru (asInts_map gs)
      have ne : gg ≠ d := fun e => by
        subst e
        rw [hd] at hg
        have hg := HO.lst.inj (Option.some.inj hg)
        cases gs with
        | nil => cases hg
        | cons x r => cases hg
      refine ⟨_, _, SR.deal_start (n := N.length) (i := i) (by rw [List.length_set, S0.len]; simp [startS]; omega) (fun hi => List.getElem?_set_self (by rw [S0.len]; simp [startS]; omega)) ne hd hg p1 p2 ⟨p3, p4⟩, M.mono _ (fun fl e => ?_) (fun _ z => z) q1⟩
      subst e
      intro v H' r
      exact r.rep.bl_
end
end Sh


namespace Sh
open PySem PySem.Spec PyProof.Rows L2
structure Dl (H : Hp) (d g : Addr) (gs : List Int) (m : Int) : Prop where
  ne : g ≠ d
  hd : H d = some (.lst [.ref g, .int m])
  hg : H g = some (.lst (gs.map V.int))
  pos : ∀ x ∈ gs, 0 ≤ x ∧ x < 2 ^ 1100000
  len : gs.length ≤ 64
  m0 : 0 ≤ m
  m1 : m < 2147483647
def Kd (d g : Addr) (H H' : Hp) : Prop := ∀ a o, H a = some o → a ≠ d → a ≠ g → H' a = some o
theorem Kd.new {d g p : Addr} {H : Hp} {o : HO} (n : H p = none) : Kd d g H (upd H p o) := fun a u e _ _ => upd_grow n a u e
theorem Dl.new {H : Hp} {d g p : Addr} {gs : List Int} {m : Int} {o : HO} (D : Dl H d g gs m) (n : H p = none) : Dl (upd H p o) d g gs m := ⟨D.ne, upd_grow n _ _ D.hd, upd_grow n _ _ D.hg, D.pos, D.len, D.m0, D.m1⟩
theorem Kd.trans {d g : Addr} {H H1 H2 : Hp} (a : Kd d g H H1) (b : Kd d g H1 H2) : Kd d g H H2 := fun x o e h1 h2 => b x o (a x o e h1 h2) h1 h2
theorem Kd.at_ {d g : Addr} {H : Hp} {o : HO} : Kd d g H (upd H g o) := fun a u e _ h => by rw [upd_ne h]; exact e
theorem Kd.atD {d g : Addr} {H : Hp} {o : HO} : Kd d g H (upd H d o) := fun a u e h _ => by rw [upd_ne h]; exact e
def spDraw : Sp := fun vs H Q _ => ∃ (d g : Addr) (gs : List Int) (m n : Int), vs = [.ref d, .int n] ∧ 0 < n ∧ n < 2 ^ 64 ∧ Dl H d g gs m ∧ ∀ (r : Int) (gs' : List Int) (m' : Int) (H' : Hp), 0 ≤ r → r < n → Dl H' d g gs' m' → Kd d g H H' → Q (.int r) H'
structure TD (mg : Str → Option Value) : Prop where
  int : mg "int" = none
theorem canLay_ints : ∀ gs : List Int, PyData.canLayAll0 (gs.map .int) = true
  | [] => by simp [PyData.canLayAll0]
  | x :: r => by simp [PyData.canLayAll0, PyData.canLay0, canLay_ints r]
theorem depth_ints : ∀ gs : List Int, PyData.depthAll (gs.map .int) ≤ 1
  | [] => by simp [PyData.depthAll]
  | x :: r => by
    have := depth_ints r
    simp only [List.map_cons, PyData.depthAll, PyData.depth]
    omega
theorem shaped_ints (gs : List Int) : SeqAt.shaped (.list (gs.map .int)) = true := by
  have h1 := canLay_ints gs
  have h2 := depth_ints gs
  unfold SeqAt.shaped
  rw [Bool.and_eq_true]
  refine ⟨by rw [PyData.canLay0]; exact h1, decide_eq_true ?_⟩
  rw [PyData.depth]
  omega
theorem dp_ints {K : PySem.W.Frag} {H : Hp} : ∀ gs : List Int, DpAll K H (gs.map V.int) (gs.map .int)
  | [] => .nil
  | x :: r => .cons (.int x) (dp_ints r)
theorem eqv_nil (gs : List Int) : PyData.eqv (.list (gs.map .int)) (.list []) = gs.isEmpty := by
  cases gs <;> simp [PyData.eqv, PyData.eqvAll]
theorem iteT' {c : Bool} {A B : Prop} (h : c = true) (a : A) : if c = true then A else B := by rw [if_pos h]; exact a
theorem iteF' {c : Bool} {A B : Prop} (h : c = false) (a : B) : if c = true then A else B := by rw [if_neg (by rw [h]; decide)]; exact a
def bodyAt (st : Stmt) (i : Nat) : Stmt := (defBody st).getD i (.Pass ⟨0, 0, 0, 0⟩)
def drawF (ws _kws : List W) : M W := match ws with
  | [.opq 0, .int n] => if 0 < n ∧ n < 2 ^ 64 then M.draw n >>= fun r => pure (.int r) else M.bad
  | _ => M.bad
theorem fnA_draw {P : Program} {w : World} {K : PySem.W.Frag} {mg : Str → Option Value} {base : Heap} {cl : Cl} {k : Nat} {f : Addr} {fd : FuncData} {ps : List Str} (hF : FnOk P w K mg base CX0 k f fd ps spDraw) (hb : Binds K fd ps []) (hl : ps.length = 2) : FnA P w K mg base cl k f [] drawF := by
  intro A outer s H us zs vs ys Q E Av dl ws kws hr hg e0 rv rz lz r1 r2 fr q
  obtain rfl : zs = [] := List.length_eq_zero_iff.mp lz
  match ws, r1, q with
  | [.opq 0, .int n], .cons ra (.cons rb .nil), q =>
    obtain ⟨hn, q⟩ := ite_run q
    cases rb.int_
    cases ra with
    | @opq d g e =>
      subst e
      obtain ⟨ne, gs, m, h1, h2, h3, h4, h5, h6⟩ := fr.deal d g rfl
      have KX : K.In s.heap := e0.mod.kin.keeps fun b o e => (e0.bs b o e).1
      have hl2 : us.length = ps.length := by rw [← rv.length, hl]; rfl
      have hbb := hb s us KX (by rw [List.append_nil]; exact hl2)
      rw [List.append_nil] at hbb
      refine codeAny_mono (hF.run A outer s H ⟨us, []⟩ us _ Q E hr e0 hbb rv ⟨d, g, gs, m, n, rfl, hn.1, hn.2, ⟨ne, h1, h2, h3, h4, h5, h6⟩, fun r gs' m' H' a b D k => ?_⟩) fun r s' hq => ?_
      · refine q r a b (.int r) H' (fun x o e n => k x o e (fun z => n ⟨(d, g), rfl, .inl z⟩) (fun z => n ⟨(d, g), rfl, .inr z⟩)) (fun d' g' e => ?_) .int
        cases e
        exact ⟨D.ne, gs', m', D.hd, D.hg, D.pos, D.len, D.m0, D.m1⟩
      · cases r with
        | error e => exact (show False from hq).elim
        | ok fl => cases fl <;> exact hq
end Sh


namespace Sh
open PySem PySem.Spec PyProof.Rows L2
def frz (i : Nat) (ρ : List Sl) : List Sl := match ρ[i]? with
  | some (.acc l) => ρ.set i (.v (.lst l))
  | _ => ρ
theorem SR.freeze {K : PySem.W.Frag} {cl : Cl} {G : Gd} {ρ : List Sl} {σ : L2.St} {H : Hp} (S : SR K cl G ρ σ H) (i : Nat) : ∃ oa, SR K cl (G.to oa) (frz i ρ) σ H ∧ Kp G.Av (G.to oa).Av H H := by
  unfold frz
  split
  · rename_i l e
    obtain ⟨a, vs, h1, h2, h3, h4, h5⟩ := S.acc i l e
    have hi : i < ρ.length := (List.getElem?_eq_some_iff.mp e).1
    have sub : ∀ b, (G.to fun j => if j = i then none else G.oa j).Av b → G.Av b ∧ b ≠ a := fun b h => by
      rcases h with h | ⟨j, h⟩
      · refine ⟨.inl h, fun z => ?_⟩
        subst z
        rcases h with h | h
        · exact S.no0 h1 h
        · exact S.tmpO i _ h1 h
      · by_cases e : j = i
        · simp [Gd.to, e] at h
        · simp only [Gd.to, if_neg e] at h
          exact ⟨.inr ⟨j, h⟩, fun z => e (S.inj j i a (z ▸ h) h1)⟩
    have kp : Kp G.Av (G.to fun j => if j = i then none else G.oa j).Av H H := ⟨fun _ _ _ e => e, fun b _ z _ => (sub b z).1⟩
    have oai : ∀ {j b}, (G.to fun j => if j = i then none else G.oa j).oa j = some b → j ≠ i ∧ G.oa j = some b := fun {j b} h => by
      by_cases e : j = i
      · simp [Gd.to, e] at h
      · exact ⟨e, by simpa [Gd.to, e] using h⟩
    have oaj : ∀ {j b}, j ≠ i → G.oa j = some b → (G.to fun j => if j = i then none else G.oa j).oa j = some b := fun hj e => by simp [Gd.to, hj, e]
    refine ⟨_, ⟨by simp [S.len], fun j w' e' => ?_, fun j ws e' => ?_, fun j c ns ws e' => ?_, fun j b h => ?_, fun j l b x y => S.inj j l b (oai x).2 (oai y).2, fun j b h => S.new j b (oai h).2, S.tmpN, fun j b h => S.tmpO j b (oai h).2, S.keep, fun b h => S.trk b (sub b h).1, S.trk0, S.dlA, S.deal, (S.xcp.setR).same kp⟩, kp⟩
    · by_cases hj : i = j
      · subst hj
        rw [List.getElem?_set_self hi] at e'
        cases e'
        exact ⟨_, h2, .lst ⟨h3, fun z => (sub a z).2 rfl⟩ h5 (h4.keep kp)⟩
      · rw [List.getElem?_set_ne hj] at e'
        obtain ⟨v', g1, g2⟩ := S.v j w' e'
        exact ⟨v', g1, g2.keep kp⟩
    · by_cases hj : i = j
      · subst hj
        rw [List.getElem?_set_self hi] at e'
        cases e'
      · rw [List.getElem?_set_ne hj] at e'
        obtain ⟨b, vs', g1, g2, g3, g4, g5⟩ := S.acc j _ e'
        exact ⟨b, vs', oaj (Ne.symm hj) g1, g2, g3, g4.keep kp, g5⟩
    · by_cases hj : i = j
      · subst hj
        rw [List.getElem?_set_self hi] at e'
        cases e'
      · rw [List.getElem?_set_ne hj] at e'
        obtain ⟨b, dx, fs, g0, g1, g2, g3, g4, g5⟩ := S.obj j c ns _ e'
        exact ⟨b, dx, fs, g0, oaj (Ne.symm hj) g1, g2, g3, g4, g5.keep kp⟩
    · obtain ⟨hj, h⟩ := oai h
      rw [List.getElem?_set_ne (Ne.symm hj)]
      exact S.oaI j b h
  · exact ⟨G.oa, S, .refl⟩
section
variable {X : Cx} {cl : Cl} {Wx : WX} {ss : List Stmt} {g : List Sl → M Fl}
theorem pssi_frz (i : Nat) (h : PSsi cl Wx X ss g) : PSsi cl Wx X ss (fun ρ => g (frz i ρ)) := ⟨fun pins s σ H D I ⟨G, ρ, S, q⟩ => by
  obtain ⟨oa, S', k⟩ := S.freeze i
  exact PSs.run h pins s σ H D I ⟨G.to oa, frz i ρ, S', (g (frz i ρ)).mono (fun fl z => okS_of k z) (fun _ z => z) q⟩⟩
end
def PAl (cl : Cl) (Wx : WX) (X : Cx) (es : List Expr) (f : List Sl → M (List W × List W)) : Prop := PA X es fun σ H Q => ∃ G ρ, SR X.K cl G ρ σ H ∧
  (f ρ).run (fun r => ∀ vs a us H', SR X.K cl G ρ σ H' → Keep G.dl H H' → H a = none → H' a = some (.lst us) → ¬ G.Av a → Reps X.K cl (fun b => G.Av b ∨ b = a) G.dl H' r.1 vs → Reps X.K cl (fun b => G.Av b ∨ b = a) G.dl H' r.2 us → us.length ≤ sizeLine → Q (vs ++ [.ref a]) H') (exE X.K cl G ρ σ H Wx)
section
variable {X : Cx} {cl : Cl} {Wx : WX} {e a b : Expr} {es : List Expr} {f : List Sl → M W} {ff : List Sl → M (List W)} {fs : List Sl → M (List W × List W)} {pos : Pos}
def lOne (f : List Sl → M (List W)) (ρ : List Sl) : M (List W × List W) := f ρ >>= fun l => pure ([], l)
def lCons (f : List Sl → M W) (fs : List Sl → M (List W × List W)) (ρ : List Sl) : M (List W × List W) := f ρ >>= fun w => fs ρ >>= fun r => pure (w :: r.1, r.2)
theorem pal_one (h : PEf cl Wx X e ff) (hs : starEach [e] X.env = (false, eval e X.env) :: starEach [] X.env := by rfl) : PAl cl Wx X [e] (lOne ff) := by
  refine ⟨fun pos pins s σ H Q I ⟨G, ρ, S, q⟩ => (pa_cons h pa_nil hs).run pos pins s σ H Q I ⟨G, ρ, S, (ff ρ).mono (fun l q a us H' S' k n h na r z => ?_) (fun _ z => z) q⟩⟩
  exact q [] a us H' S' k n h na .nil r z
theorem pal_cons (ha : PEi cl Wx X e f) (hr : PAl cl Wx X es fs) (hs : starEach (e :: es) X.env = (false, eval e X.env) :: starEach es X.env := by rfl) : PAl cl Wx X (e :: es) (lCons f fs) := by
  refine ⟨fun pos pins s σ H Q I ⟨G, ρ, S, q⟩ => (pa_cons ha hr hs).run pos pins s σ H Q I ⟨G, ρ, S, (f ρ).mono (fun w q v H1 S1 k1 r1 => ?_) (fun _ z => z) q⟩⟩
  refine ⟨G, ρ, S1, (fs ρ).mono (fun r q vs a us H2 S2 k2 n h na rr r2 z => ?_) (fun _ z => exE_of k1 z) q⟩
  have n0 : H a = none := by
    cases e : H a with
    | none => rfl
    | some o => rw [k1 a o e (notAv_notDl S na)] at n; cases n
  have r1' : Rep X.K cl (fun b => G.Av b ∨ b = a) G.dl H2 w v := r1.keep ⟨fun b o nb e => k2 b o e (notAv_notDl S1 nb), fun b o y e => y.elim id fun y => by subst y; rw [n] at e; cases e⟩
  exact q (v :: vs) a us H2 S2 (k1.trans k2) n0 h na (.cons r1' rr) r2 z
def parF (i j : Nat) (fs : List Sl → M (List W × List W)) (ρ : List Sl) : M Fl := (fs ρ).elim (fun r => match r with | ([w], l) => if j < ρ.length then pure (.next ((ρ.set i (.v w)).set j (.acc l))) else M.bad | _ => M.bad) (exN ρ)
end
end Sh


namespace Sh
open PySem PySem.Spec PyProof.Rows L2
inductive Im where
  | v (w : W) | f (l : List W)
def Gd.tm (G : Gd) (T : List Addr) : Gd := { G with tmp := T }
theorem Gd.tm_Av {G : Gd} {T : List Addr} {b : Addr} : (G.tm T).Av b ↔ (G.Av0 b ∨ b ∈ T) ∨ ∃ i, G.oa i = some b := Iff.rfl
section
variable (K : PySem.W.Frag) (cl : Cl)
inductive Its (G : Gd) (H : Hp) : List Im → List V → List Addr → Prop
  | nil : Its G H [] [] []
  | v {w v xs vs as} : Rep K cl G.Av G.dl H w v → Its G H xs vs as → Its G H (.v w :: xs) (v :: vs) as
  | f {l a us xs vs as} : a ∈ G.tmp → a ∉ as → H a = some (.lst us) → Reps K cl G.Av G.dl H l us → us.length ≤ sizeLine → Its G H xs vs as → Its G H (.f l :: xs) (.ref a :: vs) (a :: as)
end
section
variable {K : PySem.W.Frag} {cl : Cl} {G G' : Gd} {ρ : List Sl} {σ : L2.St} {H H' : Hp}
theorem Its.keep (hd : G'.dl = G.dl) (kp : Kp G.Av G'.Av H H') (kl : ∀ a us, a ∈ G.tmp → H a = some (.lst us) → H' a = some (.lst us)) : ∀ {xs : List Im} {vs : List V} {as : List Addr}, (∀ a ∈ as, a ∈ G.tmp → a ∈ G'.tmp) → Its K cl G H xs vs as → Its K cl G' H' xs vs as
  | _, _, _, _, .nil => .nil
  | _, _, _, ht, .v r t => .v (by rw [hd]; exact r.keep kp) (Its.keep hd kp kl ht t)
  | _, _, _, ht, .f h1 h2 h3 h4 h5 t => .f (ht _ List.mem_cons_self h1) h2 (kl _ _ h1 h3) (by rw [hd]; exact h4.keep kp) h5 (Its.keep hd kp kl (fun a ha => ht a (List.mem_cons_of_mem _ ha)) t)
theorem SR.lessTmp {T : List Addr} (S : SR K cl G ρ σ H) (h : ∀ a ∈ T, a ∈ G.tmp) : SR K cl (G.tm T) ρ σ H ∧ Kp G.Av (G.tm T).Av H H := by
  have sub : ∀ b, (G.tm T).Av b → G.Av b := fun b z => by
    rcases z with (z | z) | z
    · exact .inl (.inl z)
    · exact .inl (.inr (h b z))
    · exact .inr z
  have kp : Kp G.Av (G.tm T).Av H H := ⟨fun _ _ _ e => e, fun b _ z _ => sub b z⟩
  refine ⟨⟨S.len, fun i w e => ?_, fun i ws e => ?_, fun i c ns ws e => ?_, S.oaI, S.inj, S.new, fun a ha => S.tmpN a (h a ha), fun i a e ha => S.tmpO i a e (h a ha), S.keep, fun b z => S.trk b (sub b z), S.trk0, S.dlA, S.deal, S.xcp.same kp⟩, kp⟩
  · obtain ⟨v, h1, h2⟩ := S.v i w e
    exact ⟨v, h1, h2.keep kp⟩
  · obtain ⟨a, vs, h1, h2, h3, h4, h5⟩ := S.acc i ws e
    exact ⟨a, vs, h1, h2, h3, h4.keep kp, h5⟩
  · obtain ⟨a, dx, fs, h0, h1, h2, h3, h4, h5⟩ := S.obj i c ns ws e
    exact ⟨a, dx, fs, h0, h1, h2, h3, h4, h5.keep kp⟩
theorem SR.mkTmp {a : Addr} {o : HO} (S : SR K cl G ρ σ H) (S' : SR K cl G ρ σ H') (k : Keep G.dl H H') (n : H a = none) (e : H' a = some o) (na : ¬ G.Av a) : SR K cl (G.tm (a :: G.tmp)) ρ σ H' := by
  have sub : ∀ b, (G.tm (a :: G.tmp)).Av b → G.Av b ∨ b = a := fun b z => by
    rcases z with (z | z) | z
    · exact .inl (.inl (.inl z))
    · rcases List.mem_cons.mp z with z | z
      · exact .inr z
      · exact .inl (.inl (.inr z))
    · exact .inl (.inr z)
  have kp : Kp G.Av (G.tm (a :: G.tmp)).Av H H' := ⟨fun b o nb e => k b o e (notAv_notDl S nb), fun b o y e' => (sub b y).elim id fun q => by subst q; rw [n] at e'; cases e'⟩
  have h0 : G.H0 a = none := by
    cases q : G.H0 a with
    | none => rfl
    | some o => rw [S.keep a o q (notAv_notDl S na)] at n; cases n
  refine ⟨S.len, fun i w e => ?_, fun i ws e => ?_, fun i c ns ws e => ?_, S.oaI, S.inj, S.new, fun b hb => ?_, fun i b e hb => ?_, S'.keep, fun b z => ?_, S.trk0, S.dlA, S'.deal, S.xcp.same kp⟩
  · obtain ⟨v, h1, h2⟩ := S.v i w e
    exact ⟨v, h1, h2.keep kp⟩
  · obtain ⟨b, vs, h1, h2, h3, h4, h5⟩ := S.acc i ws e
    exact ⟨b, vs, h1, h2, k b _ h3 (S.noDl h1), h4.keep kp, h5⟩
  · obtain ⟨b, dx, fs, h0, h1, h2, h3, h4, h5⟩ := S.obj i c ns ws e
    exact ⟨b, dx, fs, h0, h1, h2, k b _ h3 (S.noDl h1), h4, h5.keep kp⟩
  · rcases List.mem_cons.mp hb with z | z
    · subst z; exact h0
    · exact S.tmpN b z
  · rcases List.mem_cons.mp hb with z | z
    · subst z; exact na (.inr ⟨i, e⟩)
    · exact S.tmpO i b e z
  · rcases sub b z with z | z
    · exact S'.trk b z
    · subst z; exact ⟨_, e⟩
theorem SR.takeTmp {i : Nat} {a : Addr} {ws : List W} {vs : List V} (S : SR K cl G ρ σ H) (ht : a ∈ G.tmp) (e : H a = some (.lst vs)) (r : Reps K cl G.Av G.dl H ws vs) (z : vs.length ≤ sizeLine) (hi : i < ρ.length) :
    SR K cl ((G.to fun j => if j = i then some a else G.oa j).tm (G.tmp.filter (· ≠ a))) (ρ.set i (.acc ws)) (σ.set i (some (.ref a))) H ∧ Kp G.Av ((G.to fun j => if j = i then some a else G.oa j).tm (G.tmp.filter (· ≠ a))).Av H H := by
  have sub : ∀ b, ((G.to fun j => if j = i then some a else G.oa j).tm (G.tmp.filter (· ≠ a))).Av b → G.Av b := fun b h => by
    rcases h with (h | h) | ⟨j, h⟩
    · exact .inl (.inl h)
    · exact .inl (.inr (List.mem_filter.mp h).1)
    · by_cases e : j = i
      · have h : (if j = i then some a else G.oa j) = some b := h
        rw [if_pos e] at h
        cases h
        exact .inl (.inr ht)
      · have h : (if j = i then some a else G.oa j) = some b := h
        rw [if_neg e] at h
        exact .inr ⟨j, h⟩
  have kp : Kp G.Av ((G.to fun j => if j = i then some a else G.oa j).tm (G.tmp.filter (· ≠ a))).Av H H := ⟨fun _ _ _ e => e, fun b _ y _ => sub b y⟩
  have oaj : ∀ {j b}, j ≠ i → G.oa j = some b → ((G.to fun j => if j = i then some a else G.oa j).tm (G.tmp.filter (· ≠ a))).oa j = some b := fun hj e => by simp [Gd.to, Gd.tm, hj, e]
  have oai : ∀ {j b}, ((G.to fun j => if j = i then some a else G.oa j).tm (G.tmp.filter (· ≠ a))).oa j = some b → (j = i ∧ b = a) ∨ (j ≠ i ∧ G.oa j = some b) := fun {j b} h => by
    by_cases e : j = i
    · simp [Gd.to, Gd.tm, e] at h; exact .inl ⟨e, h.symm⟩
    · exact .inr ⟨e, by simpa [Gd.to, Gd.tm, e] using h⟩
  refine ⟨⟨by simp [S.len], fun j w' e => ?_, fun j ws e => ?_, fun j c ns ws e => ?_, fun j b h => ?_, fun j l b h1 h2 => ?_, fun j b h => ?_, fun b h => S.tmpN b (List.mem_filter.mp h).1, fun j b h hb => ?_, S.keep, fun b h => S.trk b (sub b h), S.trk0, S.dlA, S.deal, (S.xcp.set).same kp⟩, kp⟩
  · by_cases hj : i = j
    · subst hj
      rw [List.getElem?_set_self hi] at e
      cases e
    · rw [List.getElem?_set_ne hj] at e ⊢
      obtain ⟨v', h1, h2⟩ := S.v j w' e
      exact ⟨v', h1, h2.keep kp⟩
  · by_cases hj : i = j
    · subst hj
      rw [List.getElem?_set_self hi] at e
      cases e
      exact ⟨a, vs, by simp [Gd.to, Gd.tm], List.getElem?_set_self (by rw [S.len]; exact hi), by assumption, r.keep kp, z⟩
    · rw [List.getElem?_set_ne hj] at e ⊢
      obtain ⟨b, vs', h1, h2, h3, h4, h5⟩ := S.acc j _ e
      exact ⟨b, vs', oaj (Ne.symm hj) h1, h2, h3, h4.keep kp, h5⟩
  · by_cases hj : i = j
    · subst hj
      rw [List.getElem?_set_self hi] at e
      cases e
    · rw [List.getElem?_set_ne hj] at e ⊢
      obtain ⟨b, dx, fs, h0, h1, h2, h3, h4, h5⟩ := S.obj j c ns _ e
      exact ⟨b, dx, fs, h0, oaj (Ne.symm hj) h1, h2, h3, h4, h5.keep kp⟩
  · rcases oai h with ⟨e1, e2⟩ | ⟨e1, e2⟩
    · subst e1; rw [List.getElem?_set_self hi]; rfl
    · rw [List.getElem?_set_ne (Ne.symm e1)]; exact S.oaI j b e2
  · rcases oai h1 with ⟨e1, e2⟩ | ⟨e1, e2⟩ <;> rcases oai h2 with ⟨e3, e4⟩ | ⟨e3, e4⟩
    · rw [e1, e3]
    · subst e2; exact (S.tmpO l _ e4 ht).elim
    · subst e4; exact (S.tmpO j _ e2 ht).elim
    · exact S.inj j l b e2 e4
  · rcases oai h with ⟨_, e2⟩ | ⟨_, e2⟩
    · subst e2; exact S.tmpN _ ht
    · exact S.new j b e2
  · have hb := List.mem_filter.mp hb
    rcases oai h with ⟨_, e2⟩ | ⟨_, e2⟩
    · subst e2; simpa using hb.2
    · exact S.tmpO j b e2 hb.1
end
def tIX (K : PySem.W.Frag) (cl : Cl) (Wx : WX) (f : List Sl → M (List Im)) : TA := fun σ H Q => ∃ G ρ, SR K cl G ρ σ H ∧
  (f ρ).run (fun xs => ∀ T vs as H', SR K cl (G.tm T) ρ σ H' → Keep G.dl H H' → (∀ a ∈ G.tmp, a ∈ T) → (∀ a ∈ T, a ∈ G.tmp ∨ H a = none) → (∀ a ∈ as, H a = none) → Its K cl (G.tm T) H' xs vs as → Q vs H') (exE K cl G ρ σ H Wx)
def PAx (cl : Cl) (Wx : WX) (X : Cx) (es : List Expr) (f : List Sl → M (List Im)) : Prop := PA X es (tIX X.K cl Wx f)
section
variable {X : Cx} {cl : Cl} {Wx : WX} {e a b c : Expr} {es : List Expr} {f : List Sl → M W} {ff : List Sl → M (List W)} {fs : List Sl → M (List Im)} {pos : Pos}
def xNil (_ : List Sl) : M (List Im) := pure []
def xV (f : List Sl → M W) (fs : List Sl → M (List Im)) (ρ : List Sl) : M (List Im) := f ρ >>= fun w => fs ρ >>= fun r => pure (.v w :: r)
def xF (f : List Sl → M (List W)) (fs : List Sl → M (List Im)) (ρ : List Sl) : M (List Im) := f ρ >>= fun l => fs ρ >>= fun r => pure (.f l :: r)
theorem pax_nil : PAx cl Wx X [] xNil := ⟨fun pos pins s σ H Q I ⟨G, ρ, S, q⟩ => pa_nil.run pos pins s σ H Q I (q G.tmp [] [] H S .refl (fun _ h => h) (fun _ h => .inl h) (fun _ h => (List.not_mem_nil h).elim) .nil)⟩
theorem Keep.none {dl : Option (Addr × Addr)} {H H' : Hp} {a : Addr} (k : Keep dl H H') (n : H' a = none) (nd : ¬ isDl dl a) : H a = none := by
  cases e : H a with
  | none => rfl
  | some o => rw [k a o e nd] at n; cases n
theorem none_notDl {K : PySem.W.Frag} {G : Gd} {ρ : List Sl} {σ : L2.St} {H : Hp} {a : Addr} (S : SR K cl G ρ σ H) (n : H a = none) : ¬ isDl G.dl a := notAv_notDl S (S.fresh n)
theorem pax_v (ha : PEi cl Wx X e f) (hr : PAx cl Wx X es fs) (hs : starEach (e :: es) X.env = (false, eval e X.env) :: starEach es X.env := by rfl) : PAx cl Wx X (e :: es) (xV f fs) := by
  refine ⟨fun pos pins s σ H Q I ⟨G, ρ, S, q⟩ => (pa_cons ha hr hs).run pos pins s σ H Q I ⟨G, ρ, S, (f ρ).mono (fun w q v H1 S1 k1 r1 => ?_) (fun _ z => z) q⟩⟩
  refine ⟨G, ρ, S1, (fs ρ).mono (fun r q T vs as H2 S2 k2 t1 t2 t3 it => ?_) (fun _ z => exE_of k1 z) q⟩
  have old : ∀ a, H1 a = none → H a = none := fun a n => k1.none n (none_notDl S1 n)
  refine q T (v :: vs) as H2 S2 (k1.trans k2) t1 (fun a ha => (t2 a ha).imp id (old a)) (fun a ha => old a (t3 a ha)) (.v (r1.keep ⟨fun b o nb e => k2 b o e (notAv_notDl S1 nb), fun b o y e => ?_⟩) it)
  rcases y with (y | y) | y
  · exact .inl (.inl y)
  · rcases t2 b y with y | y
    · exact .inl (.inr y)
    · rw [y] at e; cases e
  · exact .inr y
theorem pax_f (ha : PEf cl Wx X e ff) (hr : PAx cl Wx X es fs) (hs : starEach (e :: es) X.env = (false, eval e X.env) :: starEach es X.env := by rfl) : PAx cl Wx X (e :: es) (xF ff fs) := by
  refine ⟨fun pos pins s σ H Q I ⟨G, ρ, S, q⟩ => (pa_cons ha hr hs).run pos pins s σ H Q I ⟨G, ρ, S, (ff ρ).mono (fun w q a us H1 S1 k1 n h na r1 z => ?_) (fun _ z => z) q⟩⟩
  have S1' := S.mkTmp S1 k1 n h na
  refine ⟨G.tm (a :: G.tmp), ρ, S1', (fs ρ).mono (fun r q T vs as H2 S2 k2 t1 t2 t3 it => ?_) (fun e z => ?_) q⟩
  · have old : ∀ b, H1 b = none → H b = none := fun b n => k1.none n (none_notDl S1 n)
    have ha : a ∈ T := t1 a List.mem_cons_self
    have nda : ¬ isDl G.dl a := notAv_notDl S na
    refine q T (.ref a :: vs) (a :: as) H2 S2 (k1.trans k2) (fun b hb => t1 b (List.mem_cons_of_mem _ hb)) (fun b hb => ?_) (fun b hb => ?_) (.f ha (fun z => by rw [t3 a z] at h; cases h) (k2 a _ h nda) (r1.keep ⟨fun b o nb e => k2 b o e (notAv_notDl S1 fun z => nb (.inl z)), fun b o y e => ?_⟩) z it)
    · rcases t2 b hb with y | y
      · rcases List.mem_cons.mp y with y | y
        · subst y; exact .inr n
        · exact .inl y
      · exact .inr (old b y)
    · rcases List.mem_cons.mp hb with y | y
      · subst y; exact n
      · exact old b (t3 b y)
    · rcases y with (y | y) | y
      · exact .inl (.inl (.inl y))
      · rcases t2 b y with y | y
        · rcases List.mem_cons.mp y with y | y
          · exact .inr y
          · exact .inl (.inl (.inr y))
        · rw [y] at e; cases e
      · exact .inl (.inr y)
  · intro c d H' S' k' x
    obtain ⟨S3, k3⟩ := S'.lessTmp (T := G.tmp) fun b hb => List.mem_cons_of_mem _ hb
    refine z c d H' S3 (k1.trans k') (x.sub fun b hb => ?_)
    rcases hb with (y | y) | y
    · exact .inl (.inl y)
    · exact .inl (.inr (List.mem_cons_of_mem _ y))
    · exact .inr y
def putX : List Nat → List Im → List Sl → Option (List Sl)
  | [], [], ρ => some ρ
  | i :: is, .v w :: xs, ρ => putX is xs (ρ.set i (.v w))
  | i :: is, .f l :: xs, ρ => if i < ρ.length then putX is xs (ρ.set i (.acc l)) else none
  | _, _, _ => none
def setAll : L2.St → List Nat → List V → L2.St
  | σ, i :: is, v :: vs => setAll (σ.set i (some v)) is vs
  | σ, _, _ => σ
theorem put_ok {K : PySem.W.Frag} {H : Hp} : ∀ {is : List Nat} {xs : List Im} {vs : List V} {as : List Addr} {G : Gd} {ρ ρ' : List Sl} {σ : L2.St}, SR K cl G ρ σ H → Its K cl G H xs vs as → putX is xs ρ = some ρ' →
    ∃ oa T, SR K cl ((G.to oa).tm T) ρ' (setAll σ is vs) H ∧ Kp G.Av ((G.to oa).tm T).Av H H ∧ (∀ a ∈ G.tmp, a ∉ as → a ∈ T) ∧ is.length = vs.length
  | [], [], _, _, G, ρ, _, σ, S, .nil, e => by
    cases e
    exact ⟨G.oa, G.tmp, S, .refl, fun _ h _ => h, rfl⟩
  | [], _ :: _, _, _, _, _, _, _, _, _, e => by cases e
  | _ :: _, [], _, _, _, _, _, _, _, _, e => by cases e
  | i :: is, .v w :: xs, _, as, G, ρ, ρ', σ, S, .v r t, e => by
    obtain ⟨S1, k1⟩ := S.setV (i := i) r
    obtain ⟨oa, T, S2, k2, h2, h3⟩ := put_ok (is := is) S1 (t.keep (G := G) (G' := G.to fun j => if j = i then none else G.oa j) rfl k1 (fun _ _ _ e => e) (fun _ _ h => h)) e
    exact ⟨oa, T, S2, k1.trans k2, h2, by simp [h3]⟩
  | i :: is, .f l :: xs, _, _, G, ρ, ρ', σ, S, .f (as := as) (a := a) h1 h2 h3 h4 h5 t, e => by
    have e : (if i < ρ.length then putX is xs (ρ.set i (.acc l)) else none) = some ρ' := e
    by_cases hi : i < ρ.length
    · rw [if_pos hi] at e
      obtain ⟨S1, k1⟩ := S.takeTmp (i := i) h1 h3 h4 h5 hi
      have ne : ∀ b ∈ as, b ≠ a := fun b hb z => h2 (z ▸ hb)
      obtain ⟨oa, T, S2, k2, h6, h7⟩ := put_ok (is := is) S1 (t.keep (G := G) (G' := (G.to fun j => if j = i then some a else G.oa j).tm (G.tmp.filter (· ≠ a))) rfl k1 (fun _ _ _ e => e) (fun b hb h => List.mem_filter.mpr ⟨h, by simpa using ne b hb⟩)) e
      exact ⟨oa, T, S2, k1.trans k2, fun b hb nb => h6 b (List.mem_filter.mpr ⟨hb, by simpa using fun (z : b = a) => nb (z ▸ List.mem_cons_self)⟩) fun z => nb (List.mem_cons_of_mem _ z), by simp [h7]⟩
    · rw [if_neg hi] at e; cases e
def asgX (is : List Nat) (fs : List Sl → M (List Im)) (ρ : List Sl) : M Fl := (fs ρ).elim (fun xs => M.ofO (putX is xs ρ) >>= fun ρ' => pure (.next ρ')) (exN ρ)
theorem asgX_ok {K : PySem.W.Frag} {G : Gd} {ρ : List Sl} {σ : L2.St} {H : Hp} {is : List Nat} {D : Ends} (S : SR K cl G ρ σ H) (q : (asgX is fs ρ).run (okS K cl G H D Wx) (fun _ => False)) :
    tIX K cl Wx fs σ H fun vs H1 => is.length = vs.length ∧ D.nx (setAll σ is vs) H1 ∧ ∀ p o, H1 p = none → D.nx (setAll σ is vs) (upd H1 p o) := by
  refine ⟨G, ρ, S, (fs ρ).mono (fun xs q T vs as H' S' k t1 t2 t3 it => ?_) (fun e q => exE_of_okS (D := D) q) q⟩
  obtain ⟨ρ', e, q⟩ := ofO_run q
  have fin : ∀ H2, SR K cl (G.tm T) ρ σ H2 → Keep G.dl H H2 → Its K cl (G.tm T) H2 xs vs as → is.length = vs.length ∧ D.nx (setAll σ is vs) H2 := fun H2 S2 k2 it2 => by
    obtain ⟨oa, T2, S3, k3, h3, h4⟩ := put_ok S2 it2 e
    refine ⟨h4, ?_⟩
    obtain ⟨S4, k4⟩ := S3.lessTmp (T := G.tmp) fun a ha => h3 a (t1 a ha) fun z => by
      obtain ⟨o, y⟩ := S.trk a (.inl (.inr ha))
      rw [t3 a z] at y
      cases y
    have k0 : Kp G.Av (G.tm T).Av H H2 := ⟨fun b o nb e => k2 b o e (notAv_notDl S nb), fun b o y e => by
      rcases y with (y | y) | y
      · exact .inl (.inl y)
      · rcases t2 b y with y | y
        · exact .inl (.inr y)
        · rw [y] at e; cases e
      · exact .inr y⟩
    exact q oa _ H2 S4 (k0.trans (k3.trans k4))
  obtain ⟨h1, h2⟩ := fin H' S' k it
  refine ⟨h1, h2, fun p o n => (fin (upd H' p o) (S'.grow (upd_grow n)) (k.trans (.of (upd_grow n))) ?_).2⟩
  exact it.keep (G' := G.tm T) rfl ⟨fun b o _ e => upd_grow n b o e, fun _ _ z _ => z⟩ (fun a us _ e => upd_grow n _ _ e) (fun _ _ h => h)
theorem psi_par2 (i j : Nat) {x y : Str} {px py pt : Pos} {kt k2 pt2} (hc : X.calm = true) (hN : X.N.Nodup) (ha : PAx cl Wx X [a, b] fs) (hi : X.N[i]? = some x := by rfl) (hj : X.N[j]? = some y := by rfl) (hij : i ≠ j := by decide)
    (hx : X.env.scope.names.lookup x = some .local := by rfl) (hy : X.env.scope.names.lookup y = some .local := by rfl)
    (hw : swappedStores [.Tuple [.Name x px, .Name y py] kt pt] (.Tuple [a, b] k2 pt2) X.env = pure (some [x, y]) := by rfl)
    (hs : swapsWithSole [.Tuple [.Name x px, .Name y py] kt pt] (.Tuple [a, b] k2 pt2) pos.line X.env = pure false := by rfl) :
    PSi cl Wx X (.Assign [.Tuple [.Name x px, .Name y py] kt pt] (.Tuple [a, b] k2 pt2) pos) (asgX [i, j] fs) := by
  refine ⟨fun pins s σ H D I ⟨G, ρ, S, q⟩ => (ps_par hc hN hi hj hij hx hy ha hw hs).run pins s σ H D I ?_⟩
  obtain ⟨G1, ρ1, S1, q1⟩ := asgX_ok S q
  refine ⟨G1, ρ1, S1, (fs ρ1).mono (fun xs q T vs as H' S' k t1 t2 t3 it => ?_) (fun _ z => z) q1⟩
  obtain ⟨hl, h2, _⟩ := q T vs as H' S' k t1 t2 t3 it
  match vs, hl, h2 with
  | [u, w], _, h2 => exact ⟨u, w, rfl, h2⟩
theorem psi_par3 (i j l : Nat) {x y z : Str} {px py pz pt : Pos} {kt k2 pt2} (hc : X.calm = true) (hN : X.N.Nodup) (ha : PAx cl Wx X [a, b, c] fs) (hi : X.N[i]? = some x := by rfl) (hj : X.N[j]? = some y := by rfl) (hl : X.N[l]? = some z := by rfl) (hij : i ≠ j := by decide) (hil : i ≠ l := by decide) (hjl : j ≠ l := by decide)
    (hx : X.env.scope.names.lookup x = some .local := by rfl) (hy : X.env.scope.names.lookup y = some .local := by rfl) (hz : X.env.scope.names.lookup z = some .local := by rfl)
    (hw : swappedStores [.Tuple [.Name x px, .Name y py, .Name z pz] kt pt] (.Tuple [a, b, c] k2 pt2) X.env = pure (some [x, y, z]) := by rfl)
    (hs : swapsWithSole [.Tuple [.Name x px, .Name y py, .Name z pz] kt pt] (.Tuple [a, b, c] k2 pt2) pos.line X.env = pure false := by rfl) :
    PSi cl Wx X (.Assign [.Tuple [.Name x px, .Name y py, .Name z pz] kt pt] (.Tuple [a, b, c] k2 pt2) pos) (asgX [i, j, l] fs) := by
  refine ⟨fun pins s σ H D I ⟨G, ρ, S, q⟩ => (ps_par3 hc hN hi hj hl hij hil hjl hx hy hz ha hw hs).run pins s σ H D I ?_⟩
  obtain ⟨G1, ρ1, S1, q1⟩ := asgX_ok S q
  refine ⟨G1, ρ1, S1, (fs ρ1).mono (fun xs q T vs as H' S' k t1 t2 t3 it => ?_) (fun _ z => z) q1⟩
  obtain ⟨hl, h2, _⟩ := q T vs as H' S' k t1 t2 t3 it
  match vs, hl, h2 with
  | [u, w, v], _, h2 => exact ⟨u, w, v, rfl, h2⟩
def gSet (is : List Nat) : TGs := fun vs σ H Q => is.length = vs.length ∧ Q (setAll σ is vs) H
def PNs (X : Cx) (tgs : List Expr) (is : List Nat) : Prop := PGs X tgs (gSet is)
theorem pns_nil : PNs X [] [] := ⟨fun pins s σ H vs us Q I ru ⟨h1, h2⟩ => pgs_nil.run pins s σ H vs us Q I ru (by
  match vs, h1, h2 with
  | [], _, h2 => exact ⟨rfl, h2⟩)⟩
theorem pns_cons (i : Nat) {x : Str} {px : Pos} {tgs : List Expr} {is : List Nat} (hN : X.N.Nodup) (hr : PNs X tgs is) (hi : X.N[i]? = some x := by rfl) (hx : Loc X.env.scope x := by first | exact Or.inl rfl | exact Or.inr rfl) (hf : X.fn x = true ∨ X.env.scope.names.lookup x = some .local := by first | exact .inl rfl | exact .inr rfl | assumption)
    (h : (assignEach (.Name x px :: tgs) X.env).map (·.2) = assign (.Name x px) X.env :: (assignEach tgs X.env).map (·.2) := by rfl) : PNs X (.Name x px :: tgs) (i :: is) := ⟨fun pins s σ H vs us Q I ru ⟨h1, h2⟩ => (pgs_cons (pg_name hN hi hx hf) hr h).run pins s σ H vs us Q I ru (by
  match vs, h1, h2 with
  | v :: vs, h1, h2 => exact ⟨v, vs, rfl, by simpa using h1, h2⟩)⟩
theorem psi_tupN {tgs : List Expr} {is : List Nat} {k k2 : Nat} {p1 p2 : Pos} (hc : X.calm = true) (hg : PNs X tgs is) (ha : PAx cl Wx X es fs) (hn : (assignEach tgs X.env).length = is.length := by rfl) (hst : (assignEach tgs X.env).findIdx? (·.1) = none := by rfl)
    (hs : swapsWithSole [.Tuple tgs k p1] (.Tuple es k2 p2) pos.line X.env = pure false := by rfl) (hw : swappedStores [.Tuple tgs k p1] (.Tuple es k2 p2) X.env = pure none := by rfl)
    (h1 : (assignEach [.Tuple tgs k p1] X.env).map (·.2) = [assign (.Tuple tgs k p1) X.env] := by rfl) (hz : is.length ≤ sizeLine := by decide) : PSi cl Wx X (.Assign [.Tuple tgs k p1] (.Tuple es k2 p2) pos) (asgX is fs) := by
  refine ⟨fun pins s σ H D I ⟨G, ρ, S, q⟩ => (ps_asg (pe_tup ha) (pg_tup hc hg hn hst) hs hw h1).run pins s σ H D I ?_⟩
  obtain ⟨G1, ρ1, S1, q1⟩ := asgX_ok S q
  refine ⟨G1, ρ1, S1, (fs ρ1).mono (fun xs q T vs as H' S' k t1 t2 t3 it => ?_) (fun _ z => z) q1⟩
  obtain ⟨hl, _, h2⟩ := q T vs as H' S' k t1 t2 t3 it
  refine ⟨by rw [← hl]; exact hz, fun p n => ⟨p, vs, rfl, .inl (.inl upd_same), hl.symm, hl, h2 p _ n⟩⟩
def revL (f : List Sl → M W) (ρ : List Sl) : M (List W) := f ρ >>= fun w => match w with
  | .lst l => pure l.reverse
  | _ => M.bad
theorem pf_rev {k : Nat} {p1 p2 p3 : Pos} (h : PEb cl Wx X e f) : PEf cl Wx X (.Subscript e (.Slice none none (some (.UnaryOp .USub (.Constant (.int 1) k p1) p2)) p3) pos) (revL f) := by
  refine ⟨fun pins s σ H Q I ⟨G, ρ, S, q⟩ => (pe_revL h).run pins s σ H Q I ⟨G, ρ, S, (f ρ).mono (fun w q v H1 S1 k1 r => ?_) (fun _ z => z) q⟩⟩
  cases w with
  | lst l =>
    obtain ⟨a, vs, rfl, h1, z, r⟩ := r.lst_
    refine ⟨a, vs, rfl, .inl (.inl h1), fun p n => ?_⟩
    have g := upd_grow (o := .lst vs.reverse) n
    exact okF_of S1 k1 q p _ _ (S1.grow g) (.of g) n upd_same (S1.fresh n) (r.reverse.keep (S1.kpNew n)) (by rw [List.length_reverse]; exact z)
  | _ => exact q.elim
end
end Sh


namespace Sh
open PySem PySem.Spec PyProof.Rows L2
theorem sel_len {α : Type} {l : List α} : ∀ {π : List Nat}, (∀ i ∈ π, i < l.length) → (sel l π).length = π.length
  | [], _ => rfl
  | i :: π, h => by
    have hi : l[i]? = some (l[i]'(h i List.mem_cons_self)) := List.getElem?_eq_getElem _
    unfold sel
    rw [List.filterMap_cons_some hi, List.length_cons, List.length_cons]
    exact congrArg (· + 1) (sel_len (π := π) fun j hj => h j (List.mem_cons_of_mem _ hj))
def piOk (π : List Nat) (n m : Nat) : Bool := π.length == m && π.all (fun i => decide (i < n))
theorem piOk_ok {π : List Nat} {n m : Nat} (h : piOk π n m = true) {α : Type} (l : List α) (hl : l.length = n) : (sel l π).length = m := by
  simp only [piOk, Bool.and_eq_true, beq_iff_eq, List.all_eq_true, decide_eq_true_eq] at h
  rw [sel_len fun i hi => by rw [hl]; exact h.2 i hi]
  exact h.1
section
variable {P : Program} {w : World} {K : PySem.W.Frag} {mg : Str → Option Value} {base : Heap} {cl : Cl} {x qual : Str} {params : Arguments} {body : List Stmt} {scope : Scope} {dvs : List V} {kws : List (Str × V)} {f : Addr} {fd : FuncData} {ps N : List Str} {k : Nat}
theorem shape_n (F : FunD K x qual params body scope [] kws f fd) (n : Nat) (ks : List Str) (π : List Nat)
    (h : ∀ (kV doc pm : Value) (an : Option Addr) (cdv ct : Value) (us zs : List Value), us.length = n → zs.length = ks.length → bindArgs (PySem.W.fnOf x qual params body scope .none kV doc pm an cdv ct) ⟨us, ks.zip zs⟩ = pure (ps.zip (sel (us ++ zs) π)))
    (hl : piOk π (n + ks.length) ps.length = true := by decide) : Shape K cl fd ps n ks [] π := by
  obtain ⟨oc, od, dV, kV, doc, pm, an, cdv, ct, osl, rfl, lk, hcd, hD, hK⟩ := F.ex
  rcases hD with ⟨_, rfl⟩ | ⟨e, _⟩
  · refine ⟨fun l e => piOk_ok hl l (by simpa using e), [], [], fun _ _ _ => .nil, .nil, fun s us zs _ h1 h2 => .of_eq ?_⟩
    rw [List.append_nil]
    exact h kV doc pm an cdv ct us zs h1 h2
  · exact absurd rfl e
theorem shape_k (F : FunD K x qual params body scope [] kws f fd) (n : Nat) (ks : List Str) (ms : List (Str × V)) (ds : List W) (π : List Nat) (hk : kws ≠ []) (hms : ∀ q ∈ ms, q ∈ kws) (hd : ∀ Av dl H, Reps K cl Av dl H ds (ms.map (·.2)))
    (h : ∀ (D : Addr) (doc pm : Value) (an : Option Addr) (cdv ct : Value) (us zs mv : List Value), us.length = n → zs.length = ks.length → mv.length = ms.length →
      KwChain D ((ms.map (·.1)).zip mv) (bindArgs (PySem.W.fnOf x qual params body scope .none (.ref D) doc pm an cdv ct) ⟨us, ks.zip zs⟩) (ps.zip (sel (us ++ zs ++ mv) π)))
    (hl : piOk π (n + ks.length + ds.length) ps.length = true := by decide) : Shape K cl fd ps n ks ds π := by
  obtain ⟨oc, od, dV, kV, doc, pm, an, cdv, ct, osl, rfl, lk, hcd, hD, hK⟩ := F.ex
  rcases hD with ⟨_, rfl⟩ | ⟨e, _⟩
  · rcases hK with e | ⟨D, rfl, hq⟩
    · exact absurd e hk
    · obtain ⟨mv, l3, rk, hks⟩ := kwd_vals (ms := ms) fun q hm => hq q (hms q hm)
      refine ⟨fun l e => piOk_ok hl l e, _, mv, hd, rk, fun s us zs X h1 h2 => BindsTo.of_looks fun M => ?_⟩
      exact KwChain.looks X hks (h D doc pm an cdv ct us zs mv h1 h2 l3)
  · exact absurd rfl e
theorem shape_d (F : FunD K x qual params body scope dvs kws f fd) (n : Nat) (ks : List Str) (ds : List W) (π : List Nat) (hd : dvs ≠ []) (hds : ∀ Av dl H, Reps K cl Av dl H ds dvs)
    (h : ∀ (T : Addr) (kV doc pm : Value) (an : Option Addr) (cdv ct : Value) (us zs its : List Value), us.length = n → zs.length = ks.length → its.length = dvs.length →
      ∃ k, bindArgs (PySem.W.fnOf x qual params body scope (.ref T) kV doc pm an cdv ct) ⟨us, ks.zip zs⟩ = seqItems? (.ref T) >>= k ∧ k (some its.toArray) = pure (ps.zip (sel (us ++ zs ++ its) π)))
    (hl : piOk π (n + ks.length + ds.length) ps.length = true := by decide) : Shape K cl fd ps n ks ds π := by
  obtain ⟨oc, od, dV, kV, doc, pm, an, cdv, ct, osl, rfl, lk, hcd, hD, hK⟩ := F.ex
  rcases hD with ⟨e, _⟩ | ⟨_, T, o, its, m, rfl, lT, oT, rT⟩
  · exact absurd e hd
  · refine ⟨fun l e => piOk_ok hl l e, _, its, hds, rT, fun s us zs X h1 h2 => BindsTo.of_looks fun M => ?_⟩
    obtain ⟨k, e1, e2⟩ := h T kV doc pm an cdv ct us zs its h1 h2 rT.length.symm
    rw [e1]
    exact looks_items X lT oT (.of_pure e2)
theorem fnA_D {n : Nat} {ks : List Str} {ds : List W} {π : List Nat} {g : List Sl → M Fl} (F : FunD K x qual params body scope dvs kws f fd) (S : FnScope N ps scope) (sh : Shape K cl fd ps n ks ds π)
    (hbody : ∀ (cdv : Value) (A : Around) (outer : List Env) (s : Shared) (H : Hp) (E : XK), Room k (A.deeper (envOfC qual scope s.heap.objs.size f cdv)) → A.guards = some [] →
      PSsi cl (fun c d _ H => E c d H) (cxOf (CX P w) P w K mg base N qual scope f cdv A outer s H E) body g) : FnA P w K mg base cl (k + 1) f ks (bindW n ds π (bodyM N.length g)) := by
  obtain ⟨oc, od, dV, kV, doc, pm, an, cdv, ct, osl, rfl, lk, hcd, hD, hK⟩ := F.ex
  exact fnA_of lk hcd S sh (hbody cdv)
theorem shapeN_n (F : FunD K x qual params body scope [] kws f fd) (n : Nat) (ks : List Str) (π : List Nat)
    (h : ∀ (kV doc pm : Value) (an : Option Addr) (cdv ct : Value) (u : Value) (us zs : List Value), us.length = n → zs.length = ks.length → bindArgs (PySem.W.fnOf x qual params body scope .none kV doc pm an cdv ct) ⟨u :: us, ks.zip zs⟩ = pure (ps.zip (u :: sel (us ++ zs) π)))
    (hl : piOk π (n + ks.length) (ps.length - 1) = true := by decide) (hp : 1 ≤ ps.length := by decide) : ShapeN K cl fd ps n ks [] π := by
  obtain ⟨oc, od, dV, kV, doc, pm, an, cdv, ct, osl, rfl, lk, hcd, hD, hK⟩ := F.ex
  rcases hD with ⟨_, rfl⟩ | ⟨e, _⟩
  · refine ⟨fun l e => by rw [piOk_ok hl l (by simpa using e)]; omega, [], [], fun _ _ _ => .nil, .nil, fun s u us zs _ h1 h2 => .of_eq ?_⟩
    rw [List.append_nil]
    exact h kV doc pm an cdv ct u us zs h1 h2
  · exact absurd rfl e
theorem fnN_D {c n : Nat} {ks : List Str} {ds : List W} {π : List Nat} {g : List Sl → M Fl} (F : FunD K x qual params body scope dvs kws f fd) (S : FnScope N ps scope) (sh : ShapeN K cl fd ps n ks ds π)
    (hbody : ∀ (cdv : Value) (A : Around) (outer : List Env) (s : Shared) (H : Hp) (E : XK), Room k (A.deeper (envOfC qual scope s.heap.objs.size f cdv)) → A.guards = some [] →
      PSsi cl (fun c d _ H => E c d H) (cxOf (CX P w) P w K mg base N qual scope f cdv A outer s H E) body g) : FnN P w K mg base cl c (k + 1) f ks (bindN n ds π (bodyN N.length c g)) := by
  obtain ⟨oc, od, dV, kV, doc, pm, an, cdv, ct, osl, rfl, lk, hcd, hD, hK⟩ := F.ex
  exact fnN_of lk hcd S sh (hbody cdv)
theorem fnN_starD {c : Nat} {p0 pv : Str} {ks : List Str} {g : List Sl → M Fl} (F : FunD K x qual params body scope [] kws f fd) (S : FnScope N (p0 :: (ks ++ [pv])) scope)
    (hb : ∀ (kV doc pm : Value) (an : Option Addr) (cdv ct : Value) (u : Value) (us zs : List Value), zs.length = ks.length → bindArgs (PySem.W.fnOf x qual params body scope .none kV doc pm an cdv ct) ⟨u :: us, ks.zip zs⟩ = (newTuple us >>= fun t => pure ((p0, u) :: (ks.zip zs ++ [(pv, t)]))))
    (hbody : ∀ (cdv : Value) (A : Around) (outer : List Env) (s : Shared) (H : Hp) (E : XK), Room k (A.deeper (envOfC qual scope s.heap.objs.size f cdv)) → A.guards = some [] →
      PSsi cl (fun c d _ H => E c d H) (cxOf (CX P w) P w K mg base N qual scope f cdv A outer s H E) body g) : FnN P w K mg base cl c (k + 1) f ks (bindStar (bodyN N.length c g)) := by
  obtain ⟨oc, od, dV, kV, doc, pm, an, cdv, ct, osl, rfl, lk, hcd, hD, hK⟩ := F.ex
  rcases hD with ⟨_, rfl⟩ | ⟨e, _⟩
  · exact fnN_star lk hcd S (hb kV doc pm an cdv ct) (hbody cdv)
  · exact absurd rfl e
end
section
variable {P : Program} {w : World} {K : PySem.W.Frag} {mg : Str → Option Value} {base : Heap} {cl : Cl} {x y qual : Str} {params : Arguments} {st : Stmt} {rest : List Stmt} {scope : Scope} {kws : List (Str × V)} {f : Addr} {fd : FuncData} {N : List Str} {k : Nat}
theorem law_run {f0 : List Sl → M W} {g : List Sl → M Fl} {i : Nat} {a : Addr} {ns : List Int} {s : Shared} {H : Hp} (F : FunD K x qual params (st :: rest) scope [] kws f fd) (S : FnScope N [y] scope) (hr : Room (k + 1) callerA) (hl : ns.length ≤ sizeLine)
    (hb : ∀ (kV doc pm : Value) (an : Option Addr) (cdv ct : Value) (u : Value), bindArgs (PySem.W.fnOf x qual params (st :: rest) scope .none kV doc pm an cdv ct) ⟨[u], []⟩ = pure [(y, u)])
    (h0 : ∀ (cdv : Value) (A : Around) (outer : List Env) (s : Shared) (H : Hp) (E : XK), Room k (A.deeper (envOfC qual scope s.heap.objs.size f cdv)) → A.guards = some [] → PS (cxOf (CX P w) P w K mg base N qual scope f cdv A outer s H E) st (tAsg (tI K cl WF f0) (gName i)))
    (h1 : ∀ (cdv : Value) (A : Around) (outer : List Env) (s : Shared) (H : Hp) (E : XK), Room k (A.deeper (envOfC qual scope s.heap.objs.size f cdv)) → A.guards = some [] → PSsi cl WF (cxOf (CX P w) P w K mg base N qual scope f cdv A outer s H E) rest g)
    (e0 : Env0 P w K mg base callerA [] s H) (only : L2.Only H) (sq : SqL K H a (ns.map V.int)) (q0 : (f0 (startS N.length [.ro (ns.map .int)])).run IsDeal (fun _ => False)) (q1 : (g (dealSlots N.length i)).run (fun fl => fl = .ret (.bl true)) (fun _ => False)) :
    codeAny (model P w) callerA (.call (.ref f) ⟨[.ref a], []⟩) (CR (CX P w) [] P w H s (fun v _ => v = .bl true) fun _ _ _ => False) s := by
  obtain ⟨oc, od, dV, kV, doc, pm, an, cdv, ct, osl, rfl, lk, hcd, hD, hK⟩ := F.ex
  rcases hD with ⟨_, rfl⟩ | ⟨e, _⟩
  · have hN : [y].length ≤ N.length := by have := congrArg List.length S.pre; rw [List.length_take] at this; omega
    refine StX.run_bnd lk hcd S hr e0 (G := fun xs H2 => xs = [.ref a] ∧ H2 = H) (fun A' Ex Q' h => (BindsTo.of_eq (hb kV doc pm an cdv ct (.ref a)) : BindsTo s _ _ _) _ _ _ _ ?_) ?_
    · exact h s H [.ref a] [.ref a] e0 Un.refl rfl (fun _ _ z => z) (.cons rfl .nil) rfl ⟨rfl, rfl⟩
    · rintro s2 H2 xs ⟨rfl, rfl⟩ hr'
      exact law_reads (X := cxOf (CX P w) P w K mg base N qual scope f cdv callerA [] s2 _ fun _ _ _ => False) (h0 cdv callerA [] s2 _ _ hr' rfl) (h1 cdv callerA [] s2 _ _ hr' rfl) hN only sq hl q0 q1
  · exact absurd rfl e
theorem walk_ofS {l : PySem.W.OpenLaw} {n : Nat} {q : Program} {loose : List Str} {XP : (Str → Option Value) → Heap → Prop} {YP : World → Heap → Prop} {d : DefRec}
    (hn : l.most = some n) (hn2 : n ≤ sizeLine) (hdf : d.params.defaults = [])
    (F : ∀ (w : World) (mg : Str → Option Value) (fa : Addr) (h : Heap), YP w h → h.Ns mainGlobals mg → mg d.name = some (.ref fa) →
      ∃ K : PySem.W.Frag, K.In h ∧ ∀ (a : Addr) (ns : List Int) (s : Shared) (base : Heap) (H : Hp), ns.length ≤ n → (∀ z ∈ ns, Builtin.Int.intBits z ≤ 1048576) → K.In base → base.Ns mainGlobals mg → Env0 l.prog w K mg base callerA [] s H → L2.Only H → SqL K H a (ns.map V.int) →
        codeAny (model l.prog w) callerA (.call (.ref fa) ⟨[.ref a], []⟩) (CR (CX l.prog w) [] l.prog w H s (fun v _ => v = .bl true) fun _ _ _ => False) s) :
    PySem.W.WalkO q loose XP YP l.row.toRowW d [] (fun f vs => PySem.call f vs) := by
  refine Att.attach_callB hn hdf fun w s₀ s₁ mg mb fa o pm cd doc a vs ns G Y ho hd hcd hmg hobj hints hlen hbits hg => ?_
  obtain ⟨K, KX, run⟩ := F w mg fa _ Y G.T.g hmg
  exact law_end KX G.T.g G.T.b G.T.builtins G.T.nolimit hg hobj hints (Nat.le_trans hlen hn2) fun base H h1 h2 h3 h4 h5 => run a ns s₁ base H hlen hbits h1 h2 h3 h4 h5
end
end Sh


namespace Sh
open PySem PySem.Spec PyProof.Rows L2
def clK (cN : List Str) (K : PySem.W.Frag) : Cl := ⟨fun c => He.ga K (cN.getD c ""), none⟩
structure Tx (fa : List He.Fa) (fn : List He.DefD) (ex : PySem.W.Frag → Bool) (K : PySem.W.Frag) (mg : Str → Option Value) : Prop where
  d : He.SaysD fa fn K
  x : ex K = true
  h : ∃ h : Heap, K.In h ∧ h.Ns mainGlobals mg
section
variable {fa : List He.Fa} {fn : List He.DefD} {ex : PySem.W.Frag → Bool} {K : PySem.W.Frag} {mg : Str → Option Value}
theorem Tx.glo (T : Tx fa fn ex K mg) (i : Nat) {x : Str} (h : fa[i]? = some (.glo x) := by rfl) : mg x = some (.ref (He.ga K x)) := by
  obtain ⟨_, X, G⟩ := T.h
  exact He.glo_ok X G (T.d.fact i h)
theorem Tx.free (T : Tx fa fn ex K mg) (i : Nat) {x : Str} (h : fa[i]? = some (.free x) := by rfl) : mg x = none := by
  obtain ⟨_, X, G⟩ := T.h
  exact He.free_ok X G (T.d.fact i h)
theorem Tx.cls (T : Tx fa fn ex K mg) (i : Nat) {x : Str} (h : fa[i]? = some (.cls x) := by rfl) : Cls K (He.ga K x) := He.cls_ok (T.d.fact i h)
theorem Tx.noat (T : Tx fa fn ex K mg) (i : Nat) {x f : Str} (h : fa[i]? = some (.noat x f) := by rfl) : NoAttr K (He.ga K x) f := He.noat_ok (T.d.fact i h)
theorem Tx.meth (T : Tx fa fn ex K mg) (i : Nat) {x m : Str} (h : fa[i]? = some (.meth x m) := by rfl) : Meth K (He.ga K x) m (He.ma K (He.ga K x) m) := He.meth_ok (T.d.fact i h)
theorem Tx.mkr (T : Tx fa fn ex K mg) (i : Nat) {x : Str} (h : fa[i]? = some (.mkr x) := by rfl) : L2.Mk K (He.ga K x) (He.ma K (He.ga K x) "__init__") := He.mkr_ok (T.d.fact i h)
theorem Tx.def_ (T : Tx fa fn ex K mg) (i : Nat) {d : He.DefD} (h : fn[i]? = some d := by rfl) : ∃ fd, FunD K d.name d.qual d.params d.body d.scope (d.dvs K) (d.kws K) (He.fAd K d.at_) fd := T.d.def_ i h
end
def icB (K : PySem.W.Frag) (C : Addr) : Bool := He.eqO (PySem.W.findIn K (.ref C) "__class__") (some (some (.builtin "object.__class__"))) && (He.eqO (PySem.W.specialIn K (.builtin "object.__class__") "__get__") (some (some (.builtin "getset_descriptor.__get__"))) &&
  (decide (PySem.W.takesIn K (.builtin "object.__class__") = some true) && decide (PySem.W.mroIn K C (.type "object") = some true)))
theorem icB_ok {K : PySem.W.Frag} {C : Addr} (h : icB K C = true) (hc : Cls K C) : IC K C := by
  obtain ⟨h1, h⟩ := He.ba h
  obtain ⟨h2, h⟩ := He.ba h
  obtain ⟨h3, h4⟩ := He.ba h
  exact ⟨hc, He.eqO_ok h1, He.eqO_ok h2, of_decide_eq_true h3, of_decide_eq_true h4⟩
def isiB (cN : List Str) (own : List Nat) (sub : Nat → Nat → Bool) (K : PySem.W.Frag) : Bool := own.all fun c => icB K (clK cN K c) && (own.all (fun c' => decide (PySem.W.kitOne K (.ref (clK cN K c)) (.ref (clK cN K c')) = some (sub c c'))) &&
  (tyNs.all (fun n => decide (PySem.W.kitOne K (.ref (clK cN K c)) (.type n) = some false)) && tyNs.all fun t => decide (PySem.W.kitOne K (.type t) (.ref (clK cN K c)) = some false)))
theorem isiB_ok {cN : List Str} {own : List Nat} {sub : Nat → Nat → Bool} {K : PySem.W.Frag} (h : isiB cN own sub K = true) (hc : ∀ c ∈ own, Cls K (clK cN K c)) : Isi K (clK cN K) own sub := by
  have h := List.all_eq_true.mp h
  refine ⟨fun c m => icB_ok (He.ba (h c m)).1 (hc c m), fun c m c' m' => ?_, fun c m n mn => ?_, fun c m t mt => ?_⟩
  · exact of_decide_eq_true (List.all_eq_true.mp (He.ba (He.ba (h c m)).2).1 c' m')
  · exact of_decide_eq_true (List.all_eq_true.mp (He.ba (He.ba (He.ba (h c m)).2).2).1 n mn)
  · exact of_decide_eq_true (List.all_eq_true.mp (He.ba (He.ba (He.ba (h c m)).2).2).2 t mt)
def eqB (cN : List Str) (c : Nat) (os : List Nat) (K : PySem.W.Frag) : Bool := (He.eqO (PySem.W.findIn K (.ref (clK cN K c)) "__eq__") (some (some (.ref (He.ma K (clK cN K c) "__eq__")))) && (PySem.W.isFn K (.ref (He.ma K (clK cN K c) "__eq__")) &&
  (He.eqO (PySem.W.findIn K (.ref (clK cN K c)) "__ne__") (some (some (.builtin "object.__ne__"))) && decide (PySem.W.subIn K (.ref (clK cN K c)) (.type "object") = some true)))) &&
  (tyNs.all (fun t => PySem.W.notFirst K (clK cN K c) (.type t)) && os.all fun c' => PySem.W.notFirst K (clK cN K c) (.ref (clK cN K c')))
theorem eqB_ok {cN : List Str} {c : Nat} {os : List Nat} {K : PySem.W.Frag} (h : eqB cN c os K = true) : EqC K (clK cN K c) (He.ma K (clK cN K c) "__eq__") ∧ NF K (clK cN K) c os := by
  obtain ⟨h1, h⟩ := He.ba h
  obtain ⟨h2, h3⟩ := He.ba h
  obtain ⟨a1, h1⟩ := He.ba h1
  obtain ⟨a2, h1⟩ := He.ba h1
  obtain ⟨a3, a4⟩ := He.ba h1
  exact ⟨⟨⟨He.eqO_ok a1, a2⟩, He.eqO_ok a3, of_decide_eq_true a4⟩, List.all_eq_true.mp h2, List.all_eq_true.mp h3⟩
section
variable {P : Program} {w : World} {K : PySem.W.Frag} {mg : Str → Option Value} {base : Heap} {N : List Str} {qual : Str} {scope : Scope} {f : Addr} {cdv : Value} {A : Around} {outer : List Env} {s : Shared} {H : Hp} {E : XK}
theorem tkC : Takes (cxOf (CX P w) P w K mg base N qual scope f cdv A outer s H E) (fun c d _ H => E c d H) := takes_of rfl rfl rfl rfl
theorem tkF {X : Cx} : Takes X WF := fun u s' x => by
  obtain ⟨_, _, _, _, _, _, _, _, _, _, _, _, _, _, _, _, z⟩ := x
  exact z.elim
theorem poC : PassesOwn (model (cxOf (CX P w) P w K mg base N qual scope f cdv A outer s H E).prog (cxOf (CX P w) P w K mg base N qual scope f cdv A outer s H E).w) (cxOf (CX P w) P w K mg base N qual scope f cdv A outer s H E).A (cxOf (CX P w) P w K mg base N qual scope f cdv A outer s H E).env (cxOf (CX P w) P w K mg base N qual scope f cdv A outer s H E).xe := passes_of rfl
end
theorem bt_len : bootBuiltins "len" = some (.builtin "len") := by decide +kernel
theorem bt_abs : bootBuiltins "abs" = some (.builtin "abs") := by decide +kernel
theorem bt_sum : bootBuiltins "sum" = some (.builtin "sum") := by decide +kernel
theorem bt_any : bootBuiltins "any" = some (.builtin "any") := by decide +kernel
theorem bt_all : bootBuiltins "all" = some (.builtin "all") := by decide +kernel
theorem bt_max : bootBuiltins "max" = some (.builtin "max") := by decide +kernel
theorem bt_min : bootBuiltins "min" = some (.builtin "min") := by decide +kernel
theorem bt_sorted : bootBuiltins "sorted" = some (.builtin "sorted") := by decide +kernel
theorem bt_isinstance : bootBuiltins "isinstance" = some (.builtin "isinstance") := by decide +kernel
theorem bt_int : bootBuiltins "int" = some (.type "int") := by decide +kernel
theorem bt_str : bootBuiltins "str" = some (.type "str") := by decide +kernel
theorem bt_bool : bootBuiltins "bool" = some (.type "bool") := by decide +kernel
theorem bt_tuple : bootBuiltins "tuple" = some (.type "tuple") := by decide +kernel
theorem bt_list : bootBuiltins "list" = some (.type "list") := by decide +kernel
def whlX (t : List Sl → M Bool) (g : List Sl → M Fl) (ρ : List Sl) : M Fl := ⟨fun Q E => ∃ n, (whl t g n ρ).run Q E, fun h1 h2 ⟨n, q⟩ => ⟨n, (whl t g n ρ).mono h1 h2 q⟩⟩
theorem psi_whileX {X : Cx} {cl : Cl} {Wx : WX} {e : Expr} {body : List Stmt} {pos : Pos} {t : List Sl → M Bool} {g : List Sl → M Fl} (hp : PassesOwn (model X.prog X.w) X.A X.env X.xe) (hc : PTi cl Wx X e t) (hb : PSsi cl Wx X body g) : PSi cl Wx X (.While e body [] pos) (whlX t g) :=
  ⟨fun pins s σ H D I ⟨G, ρ, S, n, q⟩ => PS.run (psi_while n hp hc hb) pins s σ H D I ⟨G, ρ, S, q⟩⟩
theorem Atts.nil {K : PySem.W.Frag} {cl : Cl} {f : Str} : Atts K cl [] f := fun _ h => (List.not_mem_nil h).elim
theorem Atts.cons {K : PySem.W.Frag} {cl : Cl} {f : Str} {c : Nat} {cs : List Nat} (h1 : Cls K (cl c)) (h2 : NoAttr K (cl c) f) (h : Atts K cl cs f) : Atts K cl (c :: cs) f := fun d hd => by
  rcases List.mem_cons.mp hd with e | hd
  · subst e; exact ⟨h1, h2⟩
  · exact h d hd
theorem nox_ex {X : Cx} {body : List Stmt} {D : Ends} {σ : L2.St} {H : Hp} (h : ∃ t, PSs X.nox body t ∧ t D σ H) : ∃ t, PSs X body t ∧ t D σ H := let ⟨t, a, b⟩ := h; ⟨t, a.nox, b⟩
def clsBody : Stmt → List Stmt
  | .ClassDef _ _ _ b _ _ _ _ _ _ _ => b
  | _ => []
end Sh


namespace Sh
open PySem PySem.Spec PyProof.Rows L2
@[simp] theorem ofO_some {α : Type} (a : α) : M.ofO (some a) = (pure a : M α) := rfl
@[simp] theorem ofO_none {α : Type} : M.ofO (none : Option α) = (M.bad : M α) := rfl
@[simp] theorem Mpure_eq {α : Type} (a : α) : (M.pure a : M α) = pure a := rfl
@[simp] theorem Mbind_eq {α β : Type} (m : M α) (f : α → M β) : M.bind m f = (m >>= f) := rfl
theorem compL_map {tt : W → List Sl → Option (List Sl)} {t : List Sl → M Bool} {f : List Sl → M W} {ρ : List Sl} {h : W → W} : ∀ {ws : List W}, (∀ w ∈ ws, ∃ ρ', tt w ρ = some ρ' ∧ t ρ' = pure true ∧ f ρ' = pure (h w)) → compL tt t f ws ρ = pure (ws.map h)
  | [], _ => rfl
  | w :: ws, H => by
    obtain ⟨ρ', h1, h2, h3⟩ := H w List.mem_cons_self
    rw [compL, h1, ofO_some, pure_bind', h2, noX_pure, pure_bind', if_pos rfl, h3, noX_pure, pure_bind', compL_map (ws := ws) fun w hw => H w (List.mem_cons_of_mem _ hw)]
    rfl
theorem compL_filter {tt : W → List Sl → Option (List Sl)} {t : List Sl → M Bool} {f : List Sl → M W} {ρ : List Sl} {b : W → Bool} {h : W → W} : ∀ {ws : List W}, (∀ w ∈ ws, ∃ ρ', tt w ρ = some ρ' ∧ t ρ' = pure (b w) ∧ (b w = true → f ρ' = pure (h w))) → compL tt t f ws ρ = pure ((ws.filter b).map h)
  | [], _ => rfl
  | w :: ws, H => by
    obtain ⟨ρ', h1, h2, h3⟩ := H w List.mem_cons_self
    rw [compL, h1, ofO_some, pure_bind', h2, noX_pure, pure_bind', compL_filter (ws := ws) fun w hw => H w (List.mem_cons_of_mem _ hw)]
    cases hb : b w with
    | true => rw [if_pos rfl, h3 hb, noX_pure, List.filter_cons_of_pos hb]; rfl
    | false => rw [if_neg (by decide), List.filter_cons_of_neg (by simp [hb])]
theorem compL_run {tt : W → List Sl → Option (List Sl)} {t : List Sl → M Bool} {f : List Sl → M W} {ρ : List Sl} {P : W → Prop} {E : Exn → Prop} : ∀ {ws : List W} {Q : List W → Prop}, (∀ w ∈ ws, ∃ ρ', tt w ρ = some ρ' ∧ t ρ' = pure true ∧ (f ρ').run P (fun _ => False)) → (∀ l : List W, l.length = ws.length → (∀ x ∈ l, P x) → Q l) → (compL tt t f ws ρ).run Q E
  | [], Q, _, k => k [] rfl (fun _ h => (List.not_mem_nil h).elim)
  | w :: ws, Q, H, k => by
    obtain ⟨ρ', h1, h2, h3⟩ := H w List.mem_cons_self
    rw [compL, h1, ofO_some, pure_bind', h2, noX_pure, pure_bind', if_pos rfl]
    rw [bind_run]
    refine M.mono (noX (f ρ')) (Q := P) (E := fun _ => False) (fun y hy => ?_) (fun _ z => z.elim) h3
    refine compL_run (ws := ws) (fun w hw => H w (List.mem_cons_of_mem _ hw)) fun l hl hp => k (y :: l) (by simp [hl]) fun x hx => ?_
    rcases List.mem_cons.mp hx with e | hx
    · subst e; exact hy
    · exact hp x hx
theorem forL_run {tt : W → List Sl → Option (List Sl)} {g : List Sl → M Fl} {Q : Fl → Prop} {E : Exn → Prop} {I : List W → List Sl → Prop} (hend : ∀ ρ, I [] ρ → Q (.next ρ))
    (step : ∀ w ws ρ, I (w :: ws) ρ → ∃ ρ1, tt w ρ = some ρ1 ∧ (g ρ1).run (fun fl => match fl with | .next ρ' => I ws ρ' | .cont ρ' => I ws ρ' | .brk ρ' => Q (.next ρ') | x => Q x) E) : ∀ {ws : List W} {ρ : List Sl}, I ws ρ → (forL tt g ws ρ).run Q E
  | [], ρ, h => hend ρ h
  | w :: ws, ρ, h => by
    obtain ⟨ρ1, h1, h2⟩ := step w ws ρ h
    rw [forL, h1, ofO_some, pure_bind', bind_run]
    refine M.mono (g ρ1) (fun fl hf => ?_) (fun _ z => z) h2
    cases fl with
    | next ρ' => exact forL_run hend step hf
    | cont ρ' => exact forL_run hend step hf
    | brk ρ' => exact hf
    | ret w => exact hf
    | exc e ρ' => exact hf
theorem whlX_run {t : List Sl → M Bool} {g : List Sl → M Fl} {ρ : List Sl} {Q : Fl → Prop} {E : Exn → Prop} (n : Nat) (h : (whl t g n ρ).run Q E) : (whlX t g ρ).run Q E := ⟨n, h⟩
theorem whlX_next {t : List Sl → M Bool} {g : List Sl → M Fl} {ρ ρ' : List Sl} (ht : t ρ = pure true) (hg : g ρ = pure (.next ρ')) : whlX t g ρ = whlX t g ρ' := by
  refine M.ext fun Q E => propext ⟨fun ⟨n, h⟩ => ?_, fun ⟨n, h⟩ => ⟨n + 1, ?_⟩⟩
  · cases n with
    | zero => exact h.elim
    | succ n =>
      rw [whl, ht, elim_pure, if_pos rfl, hg, pure_bind'] at h
      exact ⟨n, h⟩
  · rw [whl, ht, elim_pure, if_pos rfl, hg, pure_bind']
    exact h
theorem whlX_done {t : List Sl → M Bool} {g : List Sl → M Fl} {ρ : List Sl} (ht : t ρ = pure false) : whlX t g ρ = pure (.next ρ) := by
  refine M.ext fun Q E => propext ⟨fun ⟨n, h⟩ => ?_, fun h => ⟨1, ?_⟩⟩
  · cases n with
    | zero => exact h.elim
    | succ n =>
      rw [whl, ht, elim_pure, if_neg (by decide)] at h
      exact h
  · rw [whl, ht, elim_pure, if_neg (by decide)]
    exact h
theorem run_pure {α : Type} {m : M α} {a : α} {Q : α → Prop} {E : Exn → Prop} (e : m = pure a) (h : Q a) : m.run Q E := by rw [e]; exact h
theorem sLt (n : Nat) (h : n < 16777216 := by simp) : n < sizeLine := by rw [sizeLine_eq]; omega
theorem sL (n : Nat) (h : n ≤ 16777216 := by simp) : n ≤ sizeLine := by rw [sizeLine_eq]; omega
theorem ofStr_inj {a b : String} (h : Str.ofString a = Str.ofString b) : a = b := by
  rw [Str.ofString_eq_toList, Str.ofString_eq_toList] at h
  have h1 : (a.toList.map Char.toNat).toArray = (b.toList.map Char.toNat).toArray := congrArg Str.cps h
  have h2 : a.toList.map Char.toNat = b.toList.map Char.toNat := by simpa using congrArg Array.toList h1
  have inj : ∀ l m : List Char, l.map Char.toNat = m.map Char.toNat → l = m := by
    intro l
    induction l with
    | nil => intro m e; cases m with | nil => rfl | cons _ _ => simp at e
    | cons x l ih =>
      intro m e
      cases m with
      | nil => simp at e
      | cons y m =>
        simp only [List.map_cons, List.cons.injEq] at e
        rw [ih m e.2, Char.toNat_inj.mp e.1]
  exact String.toList_inj.mp (inj _ _ h2)
theorem ofStr_eq {a b : String} : (Str.ofString a = Str.ofString b) = (a = b) := propext ⟨ofStr_inj, fun h => by rw [h]⟩
theorem ofStr_beq {a b : String} : (Str.ofString a == Str.ofString b) = decide (a = b) := by
  by_cases h : a = b
  · subst h; simp
  · have : ¬ Str.ofString a = Str.ofString b := fun e => h (ofStr_inj e)
    simp [h, this]
mutual
def eqW : W → W → Bool
  | .non, .non => true
  | .bl a, .bl b => a == b
  | .bl a, .int j => (if a then 1 else 0) == j
  | .int i, .bl b => i == (if b then 1 else 0)
  | .int i, .int j => decide (i = j)
  | .str x, .str y => decide (x = y)
  | .lst xs, .lst ys => eqWs xs ys
  | .tup xs, .tup ys => eqWs xs ys
  | _, _ => false
def eqWs : List W → List W → Bool
  | [], [] => true
  | x :: xs, y :: ys => eqW x y && eqWs xs ys
  | _, _ => false
end
def okW : Nat → W → Bool
  | _, .non => true
  | _, .bl _ => true
  | _, .int _ => true
  | _, .str x => PyData.strOk x
  | n + 1, .tup l => l.all (okW n)
  | n + 1, .lst l => l.all (okW n)
  | _, _ => false
theorem toDs_ofAll : ∀ {n : Nat} {l : List W}, (∀ w, okW n w = true → ∃ d, toD w = some d ∧ d.canLay0 = true ∧ d.depth ≤ n) → l.all (okW n) = true → ∃ ds, toDs l = some ds ∧ PyData.canLayAll0 ds = true ∧ PyData.depthAll ds ≤ n
  | n, [], _, _ => ⟨[], by rw [toDs], by rw [PyData.canLayAll0], by rw [PyData.depthAll]; exact Nat.zero_le _⟩
  | n, w :: l, H, h => by
    rw [List.all_cons, Bool.and_eq_true] at h
    obtain ⟨d, h1, h2, h3⟩ := H w h.1
    obtain ⟨ds, h4, h5, h6⟩ := toDs_ofAll (l := l) H h.2
    refine ⟨d :: ds, ?_, ?_, ?_⟩
    · rw [toDs, h1, h4]
    · rw [PyData.canLayAll0, h2, h5]; rfl
    · rw [PyData.depthAll]; omega
theorem toD_of : ∀ {n : Nat} {w : W}, okW n w = true → ∃ d, toD w = some d ∧ d.canLay0 = true ∧ d.depth ≤ n
  | n, .non, _ => ⟨.none, by rw [toD], by rw [PyData.canLay0], by rw [PyData.depth]; omega⟩
  | n, .bl b, _ => ⟨.bool b, by rw [toD], by rw [PyData.canLay0], by rw [PyData.depth]; omega⟩
  | n, .int i, _ => ⟨.int i, by rw [toD], by rw [PyData.canLay0], by rw [PyData.depth]; omega⟩
  | n, .str x, h => ⟨.str x, by rw [toD], by rw [PyData.canLay0]; simpa [okW] using h, by rw [PyData.depth]; omega⟩
  | 0, .tup l, h => by simp [okW] at h
  | 0, .lst l, h => by simp [okW] at h
  | n + 1, .tup l, h => by
    obtain ⟨ds, h1, h2, h3⟩ := toDs_ofAll (n := n) (l := l) (fun w hw => toD_of hw) (by simpa [okW] using h)
    exact ⟨.tuple ds, by rw [toD, h1]; rfl, by rw [PyData.canLay0]; exact h2, by rw [PyData.depth]; omega⟩
  | n + 1, .lst l, h => by
    obtain ⟨ds, h1, h2, h3⟩ := toDs_ofAll (n := n) (l := l) (fun w hw => toD_of hw) (by simpa [okW] using h)
    exact ⟨.list ds, by rw [toD, h1]; rfl, by rw [PyData.canLay0]; exact h2, by rw [PyData.depth]; omega⟩
  | n, .ins _ _ _, h => by cases n <;> simp [okW] at h
  | n, .ro _, h => by cases n <;> simp [okW] at h
  | n, .cls _, h => by cases n <;> simp [okW] at h
  | n, .ty _, h => by cases n <;> simp [okW] at h
  | n, .opq _, h => by cases n <;> simp [okW] at h
theorem toD_inv {w : W} {d : PyData} (h : toD w = some d) : (w = .non ∧ d = .none) ∨ (∃ b, w = .bl b ∧ d = .bool b) ∨ (∃ i, w = .int i ∧ d = .int i) ∨ (∃ x, w = .str x ∧ d = .str x) ∨ (∃ l ds, w = .tup l ∧ toDs l = some ds ∧ d = .tuple ds) ∨ (∃ l ds, w = .lst l ∧ toDs l = some ds ∧ d = .list ds) := by
  cases w with
  | tup l =>
    rw [toD] at h
    obtain ⟨ds, h1, h2⟩ := map_some_inv h
    exact .inr (.inr (.inr (.inr (.inl ⟨l, ds, rfl, h1, h2.symm⟩))))
  | lst l =>
    rw [toD] at h
    obtain ⟨ds, h1, h2⟩ := map_some_inv h
    exact .inr (.inr (.inr (.inr (.inr ⟨l, ds, rfl, h1, h2.symm⟩))))
  | _ => simp [toD] at h <;> simp [← h]
mutual
theorem eqv_eqW : ∀ {x y : W} {d e : PyData}, toD x = some d → toD y = some e → PyData.eqv d e = eqW x y := by
  intro x y d e h1 h2
  rcases toD_inv h1 with ⟨rfl, rfl⟩ | ⟨b, rfl, rfl⟩ | ⟨i, rfl, rfl⟩ | ⟨z, rfl, rfl⟩ | ⟨l, ds, rfl, hl, rfl⟩ | ⟨l, ds, rfl, hl, rfl⟩ <;>
  rcases toD_inv h2 with ⟨rfl, rfl⟩ | ⟨b', rfl, rfl⟩ | ⟨i', rfl, rfl⟩ | ⟨z', rfl, rfl⟩ | ⟨l', ds', rfl, hl', rfl⟩ | ⟨l', ds', rfl, hl', rfl⟩ <;>
  first
  | (simp only [PyData.eqv, eqW]; exact eqvAll_eqWs hl hl')
  | (simp [PyData.eqv, eqW, Bool.beq_eq_decide_eq]; done)
  | (simp only [PyData.eqv, eqW]; exact beq_eq_decide _ _)
  termination_by x => sizeOf x
theorem eqvAll_eqWs : ∀ {l l' : List W} {d e : List PyData}, toDs l = some d → toDs l' = some e → PyData.eqvAll d e = eqWs l l'
  | [], [], d, e, h1, h2 => by
    simp only [toDs, Option.some.injEq] at h1 h2
    subst h1 h2
    simp only [PyData.eqvAll, eqWs]
  | [], w :: l', d, e, h1, h2 => by
    simp only [toDs, Option.some.injEq] at h1
    subst h1
    rw [toDs] at h2
    cases h3 : toD w with
    | none => rw [h3] at h2; cases h2
    | some a =>
      cases h4 : toDs l' with
      | none => rw [h3, h4] at h2; cases h2
      | some b =>
        rw [h3, h4] at h2
        cases h2
        simp only [PyData.eqvAll, eqWs]
  | w :: l, [], d, e, h1, h2 => by
    simp only [toDs, Option.some.injEq] at h2
    subst h2
    rw [toDs] at h1
    cases h3 : toD w with
    | none => rw [h3] at h1; cases h1
    | some a =>
      cases h4 : toDs l with
      | none => rw [h3, h4] at h1; cases h1
      | some b =>
        rw [h3, h4] at h1
        cases h1
        simp only [PyData.eqvAll, eqWs]
  | w :: l, w' :: l', d, e, h1, h2 => by
    rw [toDs] at h1 h2
    cases h3 : toD w with
    | none => rw [h3] at h1; cases h1
    | some a =>
      cases h4 : toDs l with
      | none => rw [h3, h4] at h1; cases h1
      | some b =>
        rw [h3, h4] at h1
        cases h1
        cases h5 : toD w' with
        | none => rw [h5] at h2; cases h2
        | some a' =>
          cases h6 : toDs l' with
          | none => rw [h5, h6] at h2; cases h2
          | some b' =>
            rw [h5, h6] at h2
            cases h2
            simp only [PyData.eqvAll, eqWs]
            rw [eqv_eqW h3 h5, eqvAll_eqWs h4 h6]
  termination_by l => sizeOf l
end
theorem eqD_ok {neg : Bool} {x y : W} (hx : okW 9 x = true) (hy : okW 9 y = true) : eqD neg x y = some (.bl (neg ^^ eqW x y)) := by
  obtain ⟨d, h1, h2, h3⟩ := toD_of hx
  obtain ⟨e, h4, h5, h6⟩ := toD_of hy
  have sx : SeqAt.shaped d = true := by simp [SeqAt.shaped, h2]; omega
  have sy : SeqAt.shaped e = true := by simp [SeqAt.shaped, h5]; omega
  simp only [eqD, h1, h4, sx, sy, and_self, if_true, eqv_eqW h1 h4]
  cases neg <;> simp
@[simp] theorem eqD_int {neg : Bool} {i j : Int} : eqD neg (.int i) (.int j) = some (.bl (neg ^^ decide (i = j))) := by
  rw [eqD_ok (by simp [okW]) (by simp [okW])]
  simp [eqW]
theorem eqWs_map {α : Type} {f : α → W} (hf : ∀ a b, eqW (f a) (f b) = true ↔ a = b) : ∀ {l l' : List α}, (eqWs (l.map f) (l'.map f) = true ↔ l = l')
  | [], [] => by simp [eqWs]
  | [], _ :: _ => by simp [eqWs]
  | _ :: _, [] => by simp [eqWs]
  | a :: l, b :: l' => by simp [eqWs, hf, eqWs_map hf]
theorem elim_ite {α β : Type} {c : Prop} [Decidable c] (a b : M α) (k : α → M β) (h : Exn → M β) : (if c then a else b).elim k h = if c then a.elim k h else b.elim k h := by split <;> rfl
theorem bind_ite' {α β : Type} {c : Prop} [Decidable c] (a b : M α) (k : α → M β) : ((if c then a else b) >>= k) = if c then a >>= k else b >>= k := by split <;> rfl
theorem elim_bind {α β γ : Type} (m : M α) (f : α → M β) (k : β → M γ) (h : Exn → M γ) : (m >>= f).elim k h = m.elim (fun a => (f a).elim k h) h := rfl
theorem elim_elim {α β γ : Type} (m : M α) (k1 : α → M β) (h1 : Exn → M β) (k : β → M γ) (h : Exn → M γ) : (m.elim k1 h1).elim k h = m.elim (fun a => (k1 a).elim k h) (fun e => (h1 e).elim k h) := rfl
theorem bind_elim {α β γ : Type} (m : M α) (k1 : α → M β) (h1 : Exn → M β) (k : β → M γ) : (m.elim k1 h1 >>= k) = m.elim (fun a => k1 a >>= k) (fun e => h1 e >>= k) := rfl
theorem atI_nat {α : Type} (l : List α) (k : Nat) : L2.atI l (k : Int) = l[k]? := by
  unfold L2.atI L2.ixN
  by_cases h : k < l.length
  · simp [h]
  · simp [h]
theorem atI_pos {α : Type} (l : List α) {i : Int} (h : 0 ≤ i) : L2.atI l i = l[i.toNat]? := by
  rw [← atI_nat, Int.toNat_of_nonneg h]
@[simp] theorem atI_lit {α : Type} (l : List α) (n : Nat) : L2.atI l (no_index (@OfNat.ofNat Int n instOfNat)) = l[n]? := atI_nat l n
theorem atI_last' {α : Type} (l : List α) (x : α) : L2.atI (l ++ [x]) (-1) = some x := L2.atI_last l x
theorem cutW_from (l : List W) (k : Nat) : cutW l (some (k : Int)) none = l.drop k := by
  unfold cutW
  rw [HT.sIx_nat, HT.sIx_none]
  by_cases h : k ≤ l.length
  · rw [Nat.min_eq_left h, List.take_of_length_le (by simp)]
  · rw [Nat.min_eq_right (by omega), List.drop_length, List.take_nil, List.drop_eq_nil_of_le (by omega)]
theorem cutW_to (l : List W) (k : Nat) : cutW l none (some (k : Int)) = l.take k := by
  unfold cutW
  rw [HT.sIx_nat, HT.sIx_none, List.drop_zero, Nat.sub_zero]
  by_cases h : k ≤ l.length
  · rw [Nat.min_eq_left h]
  · rw [Nat.min_eq_right (by omega), List.take_length, List.take_of_length_le (by omega)]
theorem cutW_mid (l : List W) (a b : Nat) : cutW l (some (a : Int)) (some (b : Int)) = (l.take b).drop a := by
  unfold cutW
  rw [HT.sIx_nat, HT.sIx_nat, List.drop_take]
  by_cases h : a ≤ l.length
  · rw [Nat.min_eq_left h]
    by_cases hb : b ≤ l.length
    · rw [Nat.min_eq_left hb]
    · rw [Nat.min_eq_right (by omega), List.take_of_length_le (by simp), List.take_of_length_le (by simp; omega)]
  · have e : min a l.length = l.length := by omega
    rw [e, List.drop_length, List.take_nil, List.drop_eq_nil_of_le (by omega), List.take_nil]
@[simp] theorem cutW_fromL (l : List W) (n : Nat) : cutW l (some (no_index (@OfNat.ofNat Int n instOfNat))) none = l.drop n := cutW_from l n
@[simp] theorem cutW_toL (l : List W) (n : Nat) : cutW l none (some (no_index (@OfNat.ofNat Int n instOfNat))) = l.take n := cutW_to l n
@[simp] theorem cutW_midL (l : List W) (a b : Nat) : cutW l (some (no_index (@OfNat.ofNat Int a instOfNat))) (some (no_index (@OfNat.ofNat Int b instOfNat))) = (l.take b).drop a := cutW_mid l a b
end Sh


namespace Sh
open PySem
def kE {α β γ : Type} (k1 : α → M β) (k : β → M γ) (h : Exn → M γ) (a : α) : M γ := (k1 a).elim k h
def kB {α β γ : Type} (k1 : α → M β) (k : β → M γ) (a : α) : M γ := k1 a >>= k
def kR {α β : Type} (k : α → M β) (Q : β → Prop) (E : Exn → Prop) (a : α) : Prop := (k a).run Q E
theorem e_elim_elim {α β γ : Type} (m : M α) (k1 : α → M β) (h1 : Exn → M β) (k : β → M γ) (h : Exn → M γ) : (m.elim k1 h1).elim k h = m.elim (kE k1 k h) (kE h1 k h) := (rfl)
theorem e_elim_bind {α β γ : Type} (m : M α) (k1 : α → M β) (k : β → M γ) (h : Exn → M γ) : (m >>= k1).elim k h = m.elim (kE k1 k h) h := (rfl)
theorem e_bind_elim {α β γ : Type} (m : M α) (k1 : α → M β) (h1 : Exn → M β) (k : β → M γ) : (m.elim k1 h1 >>= k) = m.elim (kB k1 k) (kB h1 k) := (rfl)
theorem e_bind_bind {α β γ : Type} (m : M α) (k1 : α → M β) (k : β → M γ) : ((m >>= k1) >>= k) = (m >>= kB k1 k) := (rfl)
theorem e_elim_run {α β : Type} (m : M α) (k : α → M β) (h : Exn → M β) (Q : β → Prop) (E : Exn → Prop) : (m.elim k h).run Q E = m.run (kR k Q E) (kR h Q E) := (rfl)
theorem e_bind_run {α β : Type} (m : M α) (k : α → M β) (Q : β → Prop) (E : Exn → Prop) : (m >>= k).run Q E = m.run (kR k Q E) E := (rfl)
theorem e_kE {α β γ : Type} (k1 : α → M β) (k : β → M γ) (h : Exn → M γ) (a : α) : kE k1 k h a = (k1 a).elim k h := (rfl)
theorem e_kB {α β γ : Type} (k1 : α → M β) (k : β → M γ) (a : α) : kB k1 k a = (k1 a >>= k) := (rfl)
theorem e_kR {α β : Type} (k : α → M β) (Q : β → Prop) (E : Exn → Prop) (a : α) : kR k Q E a = (k a).run Q E := (rfl)
theorem e_elim_pure {α β : Type} (a : α) (k : α → M β) (h : Exn → M β) : ((pure a : M α).elim k h) = k a := (rfl)
theorem e_elim_throw {α β : Type} (e : Exn) (k : α → M β) (h : Exn → M β) : ((M.throw e : M α).elim k h) = h e := (rfl)
theorem e_elim_bad {α β : Type} (k : α → M β) (h : Exn → M β) : ((M.bad : M α).elim k h) = M.bad := (rfl)
theorem e_ofO_some {α : Type} (a : α) : M.ofO (some a) = (pure a : M α) := (rfl)
theorem e_ofO_none {α : Type} : M.ofO (none : Option α) = (M.bad : M α) := (rfl)
theorem e_Mpure {α : Type} (a : α) : (M.pure a : M α) = pure a := (rfl)
theorem e_Mbind {α β : Type} (m : M α) (f : α → M β) : M.bind m f = (m >>= f) := (rfl)
theorem e_pure_bind {α β : Type} (a : α) (k : α → M β) : ((pure a : M α) >>= k) = k a := (rfl)
theorem e_throw_bind {α β : Type} (e : Exn) (k : α → M β) : ((M.throw e : M α) >>= k) = M.throw e := (rfl)
theorem e_bad_bind {α β : Type} (k : α → M β) : ((M.bad : M α) >>= k) = M.bad := (rfl)
theorem e_pure_run {α : Type} (a : α) (Q : α → Prop) (E : Exn → Prop) : (pure a : M α).run Q E = Q a := (rfl)
theorem e_throw_run {α : Type} (e : Exn) (Q : α → Prop) (E : Exn → Prop) : (M.throw e : M α).run Q E = E e := (rfl)
theorem e_bad_run {α : Type} (Q : α → Prop) (E : Exn → Prop) : (M.bad : M α).run Q E = False := (rfl)
theorem e_exN (ρ : List Sl) (e : Exn) : exN ρ e = pure (.exc e ρ) := (rfl)
def sqK (g2 : List Sl → M Fl) : Fl → M Fl
  | .next ρ' => g2 ρ'
  | x => pure x
theorem e_sq (g1 g2 : List Sl → M Fl) (ρ : List Sl) : sq g1 g2 ρ = (g1 ρ >>= sqK g2) := by
  unfold sq
  first
  | rfl
  | (congr 1; funext fl; cases fl <;> rfl)
theorem e_sqK_next (g2 : List Sl → M Fl) (ρ : List Sl) : sqK g2 (.next ρ) = g2 ρ := (rfl)
theorem e_sqK_ret (g2 : List Sl → M Fl) (w : W) : sqK g2 (.ret w) = pure (.ret w) := (rfl)
theorem e_sqK_exc (g2 : List Sl → M Fl) (e : Exn) (ρ : List Sl) : sqK g2 (.exc e ρ) = pure (.exc e ρ) := (rfl)
theorem e_sqK_brk (g2 : List Sl → M Fl) (ρ : List Sl) : sqK g2 (.brk ρ) = pure (.brk ρ) := (rfl)
theorem e_sqK_cont (g2 : List Sl → M Fl) (ρ : List Sl) : sqK g2 (.cont ρ) = pure (.cont ρ) := (rfl)
theorem e_nx (ρ : List Sl) : nx ρ = pure (.next ρ) := (rfl)
theorem e_brkS (ρ : List Sl) : brkS ρ = pure (.brk ρ) := (rfl)
theorem e_contS (ρ : List Sl) : contS ρ = pure (.cont ρ) := (rfl)
theorem e_rtN (ρ : List Sl) : rtN ρ = pure (.ret .non) := (rfl)
def retK (w : W) : M Fl := pure (.ret w)
theorem e_retK (w : W) : retK w = pure (.ret w) := (rfl)
theorem e_rtS (f : List Sl → M W) (ρ : List Sl) : rtS f ρ = (f ρ).elim retK (exN ρ) := (rfl)
def dropK (ρ : List Sl) (_ : W) : M Fl := pure (.next ρ)
theorem e_dropK (ρ : List Sl) (w : W) : dropK ρ w = pure (.next ρ) := (rfl)
theorem e_drp (f : List Sl → M W) (ρ : List Sl) : drp f ρ = (f ρ).elim (dropK ρ) (exN ρ) := (rfl)
def ifK (g1 g2 : List Sl → M Fl) (ρ : List Sl) (c : Bool) : M Fl := if c = true then g1 ρ else g2 ρ
theorem e_ifS (t : List Sl → M Bool) (g1 g2 : List Sl → M Fl) (ρ : List Sl) : ifS t g1 g2 ρ = (t ρ).elim (ifK g1 g2 ρ) (exN ρ) := (rfl)
theorem e_ifK (g1 g2 : List Sl → M Fl) (ρ : List Sl) (c : Bool) : ifK g1 g2 ρ c = if c = true then g1 ρ else g2 ρ := (rfl)
def nextO : Option (List Sl) → M Fl
  | some ρ => pure (.next ρ)
  | none => M.bad
def asgK (t : W → List Sl → Option (List Sl)) (ρ : List Sl) (w : W) : M Fl := nextO (t w ρ)
theorem e_nextO (ρ : List Sl) : nextO (some ρ) = pure (.next ρ) := (rfl)
theorem e_nextN : nextO none = M.bad := (rfl)
theorem e_asg (f : List Sl → M W) (t : W → List Sl → Option (List Sl)) (ρ : List Sl) : asg f t ρ = (f ρ).elim (asgK t ρ) (exN ρ) := by
  unfold asg asgK
  first
  | rfl
  | (congr 1; funext w; cases t w ρ <;> rfl)
theorem e_asgK (t : W → List Sl → Option (List Sl)) (ρ : List Sl) (w : W) : asgK t ρ w = nextO (t w ρ) := (rfl)
def asgXK (is : List Nat) (ρ : List Sl) (xs : List Im) : M Fl := nextO (putX is xs ρ)
theorem e_asgX (is : List Nat) (fs : List Sl → M (List Im)) (ρ : List Sl) : asgX is fs ρ = (fs ρ).elim (asgXK is ρ) (exN ρ) := by
  unfold asgX asgXK
  first
  | rfl
  | (congr 1; funext w; cases putX is w ρ <;> rfl)
theorem e_asgXK (is : List Nat) (ρ : List Sl) (xs : List Im) : asgXK is ρ xs = nextO (putX is xs ρ) := (rfl)
def asgFK (i : Nat) (ρ : List Sl) (l : List W) : M Fl := if i < ρ.length then pure (.next (ρ.set i (.acc l))) else M.bad
theorem e_asgF (f : List Sl → M (List W)) (i : Nat) (ρ : List Sl) : asgF f i ρ = (f ρ).elim (asgFK i ρ) (exN ρ) := (rfl)
theorem e_asgFK (i : Nat) (ρ : List Sl) (l : List W) : asgFK i ρ l = if i < ρ.length then pure (.next (ρ.set i (.acc l))) else M.bad := (rfl)
def setK (i : Nat) (ρ : List Sl) (w : W) : M Fl := pure (.next (ρ.set i (.v w)))
theorem e_setK (i : Nat) (ρ : List Sl) (w : W) : setK i ρ w = pure (.next (ρ.set i (.v w))) := (rfl)
def binK1 (g : W → W → Option W) (fb : List Sl → M W) (ρ : List Sl) (x : W) : M W := fb ρ >>= fun y => M.ofO (g x y)
def binK2 (g : W → W → Option W) (x y : W) : M W := M.ofO (g x y)
theorem e_binK1 (g : W → W → Option W) (fb : List Sl → M W) (ρ : List Sl) (x : W) : binK1 g fb ρ x = (fb ρ >>= binK2 g x) := (rfl)
theorem e_binK2 (g : W → W → Option W) (x y : W) : binK2 g x y = M.ofO (g x y) := (rfl)
theorem e_bin (g : W → W → Option W) (fa fb : List Sl → M W) (ρ : List Sl) : Sh.bin g fa fb ρ = (fa ρ >>= binK1 g fb ρ) := (rfl)
theorem e_augI (i : Nat) (g : W → W → Option W) (f : List Sl → M W) (ρ : List Sl) : augI i g f ρ = (gv i ρ).elim (kE (binK1 g f ρ) (setK i ρ) (exN ρ)) (exN ρ) := (rfl)
def forK (tt : W → List Sl → Option (List Sl)) (g : List Sl → M Fl) (ws : List W) : Fl → M Fl
  | .next ρ' => forL tt g ws ρ'
  | .cont ρ' => forL tt g ws ρ'
  | .brk ρ' => pure (.next ρ')
  | x => pure x
def forB (g : List Sl → M Fl) : Option (List Sl) → M Fl
  | some ρ => g ρ
  | none => M.bad
theorem e_forL_nil (tt : W → List Sl → Option (List Sl)) (g : List Sl → M Fl) (ρ : List Sl) : forL tt g [] ρ = pure (.next ρ) := (rfl)
theorem e_forL_cons (tt : W → List Sl → Option (List Sl)) (g : List Sl → M Fl) (w : W) (ws : List W) (ρ : List Sl) : forL tt g (w :: ws) ρ = (forB g (tt w ρ) >>= forK tt g ws) := by
  rw [forL]
  cases tt w ρ with
  | none => rfl
  | some ρ1 =>
    show (g ρ1 >>= _) = (g ρ1 >>= _)
    first
    | rfl
    | (congr 1; funext fl; cases fl <;> rfl)
theorem e_forB (g : List Sl → M Fl) (ρ : List Sl) : forB g (some ρ) = g ρ := (rfl)
theorem e_forK_next (tt : W → List Sl → Option (List Sl)) (g : List Sl → M Fl) (ws : List W) (ρ : List Sl) : forK tt g ws (.next ρ) = forL tt g ws ρ := (rfl)
theorem e_forK_cont (tt : W → List Sl → Option (List Sl)) (g : List Sl → M Fl) (ws : List W) (ρ : List Sl) : forK tt g ws (.cont ρ) = forL tt g ws ρ := (rfl)
theorem e_forK_brk (tt : W → List Sl → Option (List Sl)) (g : List Sl → M Fl) (ws : List W) (ρ : List Sl) : forK tt g ws (.brk ρ) = pure (.next ρ) := (rfl)
theorem e_forK_ret (tt : W → List Sl → Option (List Sl)) (g : List Sl → M Fl) (ws : List W) (w : W) : forK tt g ws (.ret w) = pure (.ret w) := (rfl)
theorem e_forK_exc (tt : W → List Sl → Option (List Sl)) (g : List Sl → M Fl) (ws : List W) (e : Exn) (ρ : List Sl) : forK tt g ws (.exc e ρ) = pure (.exc e ρ) := (rfl)
def forSK (tt : W → List Sl → Option (List Sl)) (g : List Sl → M Fl) (ρ : List Sl) (ws : List W) : M Fl := forL tt g ws ρ
theorem e_forSK (tt : W → List Sl → Option (List Sl)) (g : List Sl → M Fl) (ρ : List Sl) (ws : List W) : forSK tt g ρ ws = forL tt g ws ρ := (rfl)
theorem e_forS (fi : List Sl → M (List W)) (tt : W → List Sl → Option (List Sl)) (g : List Sl → M Fl) (ρ : List Sl) : forS fi tt g ρ = (fi ρ).elim (forSK tt g ρ) (exN ρ) := (rfl)
def itemsK (w : W) : M (List W) := M.ofO (items w)
theorem e_itemsK (w : W) : itemsK w = M.ofO (items w) := (rfl)
theorem e_itS (f : List Sl → M W) (ρ : List Sl) : itS f ρ = (f ρ >>= itemsK) := (rfl)
def rng1K : W → M (List W)
  | .int j => if fits62 j = true ∧ j.toNat ≤ sizeLine then pure (rngW 0 j.toNat) else M.bad
  | _ => M.bad
theorem e_rng1N (n : Nat) (h : n ≤ sizeLine) : rng1K (.int (n : Int)) = pure (rngW 0 n) := by
  have h2 := h
  rw [sizeLine_eq] at h2
  rw [rng1K, if_pos ⟨by simp only [fits62, decide_eq_true_eq]; omega, by rw [Int.toNat_natCast]; exact h⟩, Int.toNat_natCast]
theorem e_rng1L (n : Nat) (h : n ≤ sizeLine) : rng1K (.int (no_index (@OfNat.ofNat Int n instOfNat))) = pure (rngW 0 n) := e_rng1N n h
theorem rng1K_of (j : Int) : rng1K (.int j) = if fits62 j = true ∧ j.toNat ≤ sizeLine then pure (rngW 0 j.toNat) else M.bad := (rfl)
theorem e_rng1 (f : List Sl → M W) (ρ : List Sl) : rng1 f ρ = (f ρ >>= rng1K) := by
  unfold rng1
  first
  | rfl
  | (congr 1; funext w; cases w <;> rfl)
def rng2K (f2 : List Sl → M W) (ρ : List Sl) (w : W) : M (List W) := f2 ρ >>= fun u => match w, u with | .int i, .int j => if fits62 i = true ∧ fits62 j = true ∧ (j - i).toNat ≤ sizeLine then pure (rngW i (j - i).toNat) else M.bad | _, _ => M.bad
def rng2J : W → W → M (List W)
  | .int i, .int j => if fits62 i = true ∧ fits62 j = true ∧ (j - i).toNat ≤ sizeLine then pure (rngW i (j - i).toNat) else M.bad
  | _, _ => M.bad
theorem e_rng2 (f f2 : List Sl → M W) (ρ : List Sl) : rng2 f f2 ρ = (f ρ >>= rng2K f2 ρ) := (rfl)
theorem e_rng2K (f2 : List Sl → M W) (ρ : List Sl) (w : W) : rng2K f2 ρ w = (f2 ρ >>= rng2J w) := by
  unfold rng2K
  first
  | rfl
  | (congr 1; funext u; cases w <;> cases u <;> rfl)
theorem e_rng2J (i j : Int) : rng2J (.int i) (.int j) = if fits62 i = true ∧ fits62 j = true ∧ (j - i).toNat ≤ sizeLine then pure (rngW i (j - i).toNat) else M.bad := (rfl)
def zipK2 : W → W → M (List W)
  | .lst a, .lst b => pure (zipW a b)
  | .tup a, .tup b => pure (zipW a b)
  | _, _ => M.bad
def zipK (f2 : List Sl → M W) (ρ : List Sl) (x : W) : M (List W) := f2 ρ >>= zipK2 x
theorem e_zipK (f2 : List Sl → M W) (ρ : List Sl) (x : W) : zipK f2 ρ x = (f2 ρ >>= zipK2 x) := (rfl)
theorem e_zipL (a b : List W) : zipK2 (.lst a) (.lst b) = pure (zipW a b) := (rfl)
theorem e_zipT (a b : List W) : zipK2 (.tup a) (.tup b) = pure (zipW a b) := (rfl)
theorem e_itZip (f f2 : List Sl → M W) (ρ : List Sl) : itZip f f2 ρ = (f ρ >>= zipK f2 ρ) := by
  unfold itZip zipK
  first
  | rfl
  | (congr 1; funext x; congr 1; funext y; cases x <;> cases y <;> rfl)
def enumK : W → M (List W)
  | .lst a => pure (enumW a)
  | _ => M.bad
theorem e_enumK (a : List W) : enumK (.lst a) = pure (enumW a) := (rfl)
theorem e_itEnum (f : List Sl → M W) (ρ : List Sl) : itEnum f ρ = (f ρ >>= enumK) := by
  unfold itEnum
  first
  | rfl
  | (congr 1; funext x; cases x <;> rfl)
def accOf (k : List W → M Fl) : Option Sl → M Fl
  | some (.acc l) => k l
  | _ => M.bad
theorem e_accOf (k : List W → M Fl) (l : List W) : accOf k (some (.acc l)) = k l := (rfl)
def appK2 (i : Nat) (ρ : List Sl) (l : List W) (w : W) : M Fl := if l.length < sizeLine then pure (.next (ρ.set i (.acc (l ++ [w])))) else M.bad
def appK (i : Nat) (f : List Sl → M W) (ρ : List Sl) (l : List W) : M Fl := (f ρ).elim (appK2 i ρ l) (exN ρ)
theorem e_appK2 (i : Nat) (ρ : List Sl) (l : List W) (w : W) : appK2 i ρ l w = if l.length < sizeLine then pure (.next (ρ.set i (.acc (l ++ [w])))) else M.bad := (rfl)
theorem e_appK (i : Nat) (f : List Sl → M W) (ρ : List Sl) (l : List W) : appK i f ρ l = (f ρ).elim (appK2 i ρ l) (exN ρ) := (rfl)
theorem e_appS (i : Nat) (f : List Sl → M W) (ρ : List Sl) : appS i f ρ = accOf (appK i f ρ) ρ[i]? := by
  unfold appS accOf
  first
  | rfl
  | (cases ρ[i]? <;> rfl)
def extK2 (i : Nat) (ρ : List Sl) (l : List W) : W → M Fl
  | .lst l' => if l.length + l'.length ≤ sizeLine then pure (.next (ρ.set i (.acc (l ++ l')))) else M.bad
  | _ => M.bad
def extK (i : Nat) (f : List Sl → M W) (ρ : List Sl) (l : List W) : M Fl := (f ρ).elim (extK2 i ρ l) (exN ρ)
theorem e_extK2 (i : Nat) (ρ : List Sl) (l l' : List W) : extK2 i ρ l (.lst l') = if l.length + l'.length ≤ sizeLine then pure (.next (ρ.set i (.acc (l ++ l')))) else M.bad := (rfl)
theorem e_extK (i : Nat) (f : List Sl → M W) (ρ : List Sl) (l : List W) : extK i f ρ l = (f ρ).elim (extK2 i ρ l) (exN ρ) := (rfl)
theorem e_extS (i : Nat) (f : List Sl → M W) (ρ : List Sl) : extS i f ρ = accOf (extK i f ρ) ρ[i]? := by
  unfold extS accOf extK
  cases ρ[i]? with
  | none => rfl
  | some s =>
    cases s with
    | acc l =>
      show M.elim _ _ _ = M.elim _ _ _
      first
      | rfl
      | (congr 1; funext w; cases w <;> rfl)
    | _ => rfl
def objK (k : Nat → List Str → List W → M Fl) : Option Sl → M Fl
  | some (.obj c ns l) => k c ns l
  | _ => M.bad
theorem e_objK (k : Nat → List Str → List W → M Fl) (c : Nat) (ns : List Str) (l : List W) : objK k (some (.obj c ns l)) = k c ns l := (rfl)
def stK2 (i : Nat) (f : Str) (ρ : List Sl) (c : Nat) (ns : List Str) (l : List W) (w : W) : M Fl := pure (.next (ρ.set i (.obj c (ns ++ [f]) (l ++ [w]))))
def stK (i : Nat) (cs : List Nat) (f : Str) (fe : List Sl → M W) (ρ : List Sl) (c : Nat) (ns : List Str) (l : List W) : M Fl := if cs.contains c = true ∧ ns.contains f = false ∧ ns.length < 1000 then (fe ρ).elim (stK2 i f ρ c ns l) (exN ρ) else M.bad
theorem e_stK2 (i : Nat) (f : Str) (ρ : List Sl) (c : Nat) (ns : List Str) (l : List W) (w : W) : stK2 i f ρ c ns l w = pure (.next (ρ.set i (.obj c (ns ++ [f]) (l ++ [w])))) := (rfl)
theorem e_stK (i : Nat) (cs : List Nat) (f : Str) (fe : List Sl → M W) (ρ : List Sl) (c : Nat) (ns : List Str) (l : List W) : stK i cs f fe ρ c ns l = if cs.contains c = true ∧ ns.contains f = false ∧ ns.length < 1000 then (fe ρ).elim (stK2 i f ρ c ns l) (exN ρ) else M.bad := (rfl)
theorem e_stO (i : Nat) (cs : List Nat) (f : Str) (fe : List Sl → M W) (ρ : List Sl) : stO i cs f fe ρ = objK (stK i cs f fe ρ) ρ[i]? := by
  unfold stO objK
  rfl
def gvK : Option Sl → M W
  | some (.v w) => pure w
  | _ => M.bad
def gbK : Option Sl → M W
  | some (.v w) => pure w
  | some (.acc l) => pure (.lst l)
  | _ => M.bad
theorem e_gv (i : Nat) (ρ : List Sl) : gv i ρ = gvK ρ[i]? := (rfl)
theorem e_gb (i : Nat) (ρ : List Sl) : gb i ρ = gbK ρ[i]? := (rfl)
theorem e_gvK (w : W) : gvK (some (.v w)) = pure w := (rfl)
theorem e_gbK (w : W) : gbK (some (.v w)) = pure w := (rfl)
theorem e_gbA (l : List W) : gbK (some (.acc l)) = pure (.lst l) := (rfl)
theorem e_cw (w : W) (ρ : List Sl) : cw w ρ = pure w := (rfl)
def un1K (g : W → Option W) (w : W) : M W := M.ofO (g w)
theorem e_un1K (g : W → Option W) (w : W) : un1K g w = M.ofO (g w) := (rfl)
theorem e_un1 (g : W → Option W) (f : List Sl → M W) (ρ : List Sl) : un1 g f ρ = (f ρ >>= un1K g) := (rfl)
def unFK (g : W → Option (List W)) (w : W) : M (List W) := M.ofO (g w)
theorem e_unFK (g : W → Option (List W)) (w : W) : unFK g w = M.ofO (g w) := (rfl)
theorem e_unF (g : W → Option (List W)) (f : List Sl → M W) (ρ : List Sl) : unF g f ρ = (f ρ >>= unFK g) := (rfl)
def un1MK (g : W → M W) (w : W) : M W := noX (g w)
theorem e_un1MK (g : W → M W) (w : W) : un1MK g w = noX (g w) := (rfl)
theorem e_un1M (g : W → M W) (f : List Sl → M W) (ρ : List Sl) : un1M g f ρ = (f ρ >>= un1MK g) := (rfl)
def binMK2 (g : W → W → M W) (x y : W) : M W := noX (g x y)
def binMK1 (g : W → W → M W) (fb : List Sl → M W) (ρ : List Sl) (x : W) : M W := fb ρ >>= binMK2 g x
theorem e_binMK2 (g : W → W → M W) (x y : W) : binMK2 g x y = noX (g x y) := (rfl)
theorem e_binMK1 (g : W → W → M W) (fb : List Sl → M W) (ρ : List Sl) (x : W) : binMK1 g fb ρ x = (fb ρ >>= binMK2 g x) := (rfl)
theorem e_binM (g : W → W → M W) (fa fb : List Sl → M W) (ρ : List Sl) : binM g fa fb ρ = (fa ρ >>= binMK1 g fb ρ) := (rfl)
def eqDF (neg : Bool) (x y : W) : M W := M.ofO (eqD neg x y)
theorem e_eqDF (neg : Bool) (x y : W) : eqDF neg x y = M.ofO (eqD neg x y) := (rfl)
def eqF (own : List Nat) (c : Nat) (F : List W → List W → M W) (fin : W → M W) (or : W → W → M W) (x y : W) : M W := if isIns c x = true then (if (isIns c x && seen own y && !isIns c y || isIns c x && isIns c y && own.contains c) = true then (match y with | .lst _ => M.bad | _ => F [x, y] [] >>= fin) else M.bad) else or x y
theorem e_eqF_not (own : List Nat) (c : Nat) (F : List W → List W → M W) (fin : W → M W) (or : W → W → M W) (x y : W) (h : isIns c x = false) : eqF own c F fin or x y = or x y := by
  unfold eqF; rw [if_neg (by rw [h]; decide)]
theorem e_eqF_ins (own : List Nat) (c c' : Nat) (F : List W → List W → M W) (fin : W → M W) (or : W → W → M W) (ns ns' : List Str) (l l' : List W) (h1 : own.contains c = true) (h2 : own.contains c' = true) : eqF own c F fin or (.ins c ns l) (.ins c' ns' l') = (F [.ins c ns l, .ins c' ns' l'] [] >>= fin) := by
  unfold eqF
  have e1 : isIns c (.ins c ns l) = true := by simp [isIns]
  rw [if_pos e1]
  by_cases e : c' = c
  · subst e
    rw [if_pos (by simp only [isIns, seen, h1, beq_self_eq_true, Bool.true_and, Bool.and_true, Bool.or_true])]
  · have e2 : (c' == c) = false := beq_eq_false_iff_ne.mpr e
    rw [if_pos (by simp only [isIns, seen, h2, e2, beq_self_eq_true, Bool.true_and, Bool.not_false, Bool.true_or])]
def lenF (c : Nat) (F : List W → List W → M W) (or : W → M W) (x : W) : M W := if isIns c x = true then (if isIns c x = true then F [x] [] >>= asLen else M.bad) else or x
theorem e_lenF_ins (c : Nat) (F : List W → List W → M W) (or : W → M W) (ns : List Str) (l : List W) : lenF c F or (.ins c ns l) = (F [.ins c ns l] [] >>= asLen) := by
  have e1 : isIns c (.ins c ns l) = true := by simp [isIns]
  unfold lenF; rw [if_pos e1, if_pos e1]
theorem e_lenF_not (c : Nat) (F : List W → List W → M W) (or : W → M W) (x : W) (h : isIns c x = false) : lenF c F or x = or x := by
  unfold lenF; rw [if_neg (by rw [h]; decide)]
theorem e_noX_bind {α β : Type} (m : M α) (k : α → M β) : noX (m >>= k) = noX m >>= (fun a => noX (k a)) := (rfl)
theorem e_noX_pure {α : Type} (a : α) : noX (pure a : M α) = pure a := (rfl)
def asBK (w : W) : M Bool := M.ofO (asB w)
theorem e_asBK (b : Bool) : asBK (.bl b) = pure b := (rfl)
theorem e_tst (f : List Sl → M W) (ρ : List Sl) : tst f ρ = (f ρ >>= asBK) := (rfl)
def truK (w : W) : M Bool := M.ofO (truW w)
theorem e_truK (w : W) : truK w = M.ofO (truW w) := (rfl)
theorem e_tru (f : List Sl → M W) (ρ : List Sl) : tru f ρ = (f ρ >>= truK) := (rfl)
def notK (c : Bool) : M Bool := pure (!c)
theorem e_notK (c : Bool) : notK c = pure (!c) := (rfl)
theorem e_notT (f : List Sl → M Bool) (ρ : List Sl) : notT f ρ = (f ρ >>= notK) := (rfl)
def andK (g : List Sl → M Bool) (ρ : List Sl) (c : Bool) : M Bool := if c = true then g ρ else pure false
def orK (g : List Sl → M Bool) (ρ : List Sl) (c : Bool) : M Bool := if c = true then pure true else g ρ
theorem e_andK (g : List Sl → M Bool) (ρ : List Sl) (c : Bool) : andK g ρ c = if c = true then g ρ else pure false := (rfl)
theorem e_orK (g : List Sl → M Bool) (ρ : List Sl) (c : Bool) : orK g ρ c = if c = true then pure true else g ρ := (rfl)
theorem e_andT (f g : List Sl → M Bool) (ρ : List Sl) : andT f g ρ = (f ρ >>= andK g ρ) := (rfl)
theorem e_orT (f g : List Sl → M Bool) (ρ : List Sl) : orT f g ρ = (f ρ >>= orK g ρ) := (rfl)
def notVK (w : W) : M W := M.ofO (asB w) >>= fun c => pure (.bl (!c))
theorem e_notVK (b : Bool) : notVK (.bl b) = pure (.bl (!b)) := (rfl)
theorem e_notV (f : List Sl → M W) (ρ : List Sl) : notV f ρ = (f ρ >>= notVK) := (rfl)
def andVK (g : List Sl → M W) (ρ : List Sl) (w : W) : M W := M.ofO (asB w) >>= fun c => if c = true then g ρ else pure (.bl false)
def orVK (g : List Sl → M W) (ρ : List Sl) (w : W) : M W := M.ofO (asB w) >>= fun c => if c = true then pure (.bl true) else g ρ
theorem e_andVK (g : List Sl → M W) (ρ : List Sl) (b : Bool) : andVK g ρ (.bl b) = if b = true then g ρ else pure (.bl false) := (rfl)
theorem e_orVK (g : List Sl → M W) (ρ : List Sl) (b : Bool) : orVK g ρ (.bl b) = if b = true then pure (.bl true) else g ρ := (rfl)
theorem e_andV (f g : List Sl → M W) (ρ : List Sl) : andV f g ρ = (f ρ >>= andVK g ρ) := (rfl)
theorem e_orV (f g : List Sl → M W) (ρ : List Sl) : orV f g ρ = (f ρ >>= orVK g ρ) := (rfl)
def ifEK (f g : List Sl → M W) (ρ : List Sl) (c : Bool) : M W := if c = true then f ρ else g ρ
theorem e_ifEK (f g : List Sl → M W) (ρ : List Sl) (c : Bool) : ifEK f g ρ c = if c = true then f ρ else g ρ := (rfl)
theorem e_ifE (t : List Sl → M Bool) (f g : List Sl → M W) (ρ : List Sl) : ifE t f g ρ = (t ρ >>= ifEK f g ρ) := (rfl)
def isNK (neg : Bool) (w : W) : M W := pure (.bl (match w with | .non => !neg | _ => neg))
theorem e_isN (neg : Bool) (f : List Sl → M W) (ρ : List Sl) : isN neg f ρ = (f ρ >>= isNK neg) := (rfl)
theorem e_isNK_non (neg : Bool) : isNK neg .non = pure (.bl (!neg)) := (rfl)
theorem e_isNK_int (neg : Bool) (i : Int) : isNK neg (.int i) = pure (.bl neg) := (rfl)
theorem e_isNK_tup (neg : Bool) (l : List W) : isNK neg (.tup l) = pure (.bl neg) := (rfl)
theorem e_isNK_lst (neg : Bool) (l : List W) : isNK neg (.lst l) = pure (.bl neg) := (rfl)
theorem e_isNK_str (neg : Bool) (l : Str) : isNK neg (.str l) = pure (.bl neg) := (rfl)
theorem e_isNK_bl (neg : Bool) (b : Bool) : isNK neg (.bl b) = pure (.bl neg) := (rfl)
theorem e_isNK_ins (neg : Bool) (c : Nat) (ns : List Str) (l : List W) : isNK neg (.ins c ns l) = pure (.bl neg) := (rfl)
def negK : W → M W
  | .int i => pure (.int (-i))
  | _ => M.bad
theorem e_negK (i : Int) : negK (.int i) = pure (.int (-i)) := (rfl)
theorem e_neg1 (f : List Sl → M W) (ρ : List Sl) : neg1 f ρ = (f ρ >>= negK) := by
  unfold neg1
  first
  | rfl
  | (congr 1; funext w; cases w <;> rfl)
def chnK3 (g' : W → W → Option W) (fc : List Sl → M W) (ρ : List Sl) (y : W) (k : Bool) : M W := if k = true then fc ρ >>= binK2 g' y else pure (.bl false)
def chnK2 (g g' : W → W → Option W) (fc : List Sl → M W) (ρ : List Sl) (x y : W) : M W := M.ofO (g x y) >>= kB asBK (chnK3 g' fc ρ y)
def chnK1 (g g' : W → W → Option W) (fb fc : List Sl → M W) (ρ : List Sl) (x : W) : M W := fb ρ >>= chnK2 g g' fc ρ x
theorem e_chn (g g' : W → W → Option W) (fa fb fc : List Sl → M W) (ρ : List Sl) : chn g g' fa fb fc ρ = (fa ρ >>= chnK1 g g' fb fc ρ) := (rfl)
theorem e_chnK1 (g g' : W → W → Option W) (fb fc : List Sl → M W) (ρ : List Sl) (x : W) : chnK1 g g' fb fc ρ x = (fb ρ >>= chnK2 g g' fc ρ x) := (rfl)
theorem e_chnK2 (g g' : W → W → Option W) (fc : List Sl → M W) (ρ : List Sl) (x y : W) : chnK2 g g' fc ρ x y = (M.ofO (g x y) >>= kB asBK (chnK3 g' fc ρ y)) := (rfl)
theorem e_chnK3 (g' : W → W → Option W) (fc : List Sl → M W) (ρ : List Sl) (y : W) (k : Bool) : chnK3 g' fc ρ y k = if k = true then fc ρ >>= binK2 g' y else pure (.bl false) := (rfl)
theorem e_aNil (ρ : List Sl) : aNil ρ = pure [] := (rfl)
def consK2 (w : W) (ws : List W) : M (List W) := pure (w :: ws)
def consK (fs : List Sl → M (List W)) (ρ : List Sl) (w : W) : M (List W) := fs ρ >>= consK2 w
theorem e_consK2 (w : W) (ws : List W) : consK2 w ws = pure (w :: ws) := (rfl)
theorem e_consK (fs : List Sl → M (List W)) (ρ : List Sl) (w : W) : consK fs ρ w = (fs ρ >>= consK2 w) := (rfl)
theorem e_aCons (f : List Sl → M W) (fs : List Sl → M (List W)) (ρ : List Sl) : aCons f fs ρ = (f ρ >>= consK fs ρ) := (rfl)
def starK2 (l ws : List W) : M (List W) := pure (l ++ ws)
def starK1 (fs : List Sl → M (List W)) (ρ : List Sl) (l : List W) : M (List W) := fs ρ >>= starK2 l
theorem e_starK2 (l ws : List W) : starK2 l ws = pure (l ++ ws) := (rfl)
theorem e_starK1 (fs : List Sl → M (List W)) (ρ : List Sl) (l : List W) : starK1 fs ρ l = (fs ρ >>= starK2 l) := (rfl)
theorem e_aStar (f : List Sl → M W) (fs : List Sl → M (List W)) (ρ : List Sl) : aStar f fs ρ = (f ρ >>= kB itemsK (starK1 fs ρ)) := (rfl)
def tupK (l : List W) : M W := if l.length ≤ sizeLine then pure (.tup l) else M.bad
def lstK1 (l : List W) : M (List W) := if l.length ≤ sizeLine then pure l else M.bad
theorem e_tupK (l : List W) : tupK l = if l.length ≤ sizeLine then pure (.tup l) else M.bad := (rfl)
theorem e_lstK1 (l : List W) : lstK1 l = if l.length ≤ sizeLine then pure l else M.bad := (rfl)
theorem e_dTup (fs : List Sl → M (List W)) (ρ : List Sl) : dTup fs ρ = (fs ρ >>= tupK) := (rfl)
theorem e_dLst (fs : List Sl → M (List W)) (ρ : List Sl) : dLst fs ρ = (fs ρ >>= lstK1) := (rfl)
def lstF (f : List Sl → M (List W)) (ρ : List Sl) : M W := f ρ >>= fun l => pure (.lst l)
def lstK (l : List W) : M W := pure (.lst l)
theorem e_lstK (l : List W) : lstK l = pure (.lst l) := (rfl)
theorem e_lstF (f : List Sl → M (List W)) (ρ : List Sl) : lstF f ρ = (f ρ >>= lstK) := (rfl)
def frzF (i : Nat) (g : List Sl → M Fl) (ρ : List Sl) : M Fl := g (frz i ρ)
theorem e_frzF (i : Nat) (g : List Sl → M Fl) (ρ : List Sl) : frzF i g ρ = g (frz i ρ) := (rfl)
def frzO (i : Nat) (ρ : List Sl) : Option Sl → List Sl
  | some (.acc l) => ρ.set i (.v (.lst l))
  | _ => ρ
theorem e_frz (i : Nat) (ρ : List Sl) : frz i ρ = frzO i ρ ρ[i]? := by
  unfold frz frzO
  rfl
theorem e_frzO (i : Nat) (ρ : List Sl) (l : List W) : frzO i ρ (some (.acc l)) = ρ.set i (.v (.lst l)) := (rfl)
theorem e_frzOv (i : Nat) (ρ : List Sl) (w : W) : frzO i ρ (some (.v w)) = ρ := (rfl)
theorem e_frzOn (i : Nat) (ρ : List Sl) : frzO i ρ (some .no) = ρ := (rfl)
theorem e_xNil (ρ : List Sl) : xNil ρ = pure [] := (rfl)
def xK2 (w : Im) (r : List Im) : M (List Im) := pure (w :: r)
def xVK (fs : List Sl → M (List Im)) (ρ : List Sl) (w : W) : M (List Im) := fs ρ >>= xK2 (.v w)
def xFK (fs : List Sl → M (List Im)) (ρ : List Sl) (l : List W) : M (List Im) := fs ρ >>= xK2 (.f l)
theorem e_xK2 (w : Im) (r : List Im) : xK2 w r = pure (w :: r) := (rfl)
theorem e_xVK (fs : List Sl → M (List Im)) (ρ : List Sl) (w : W) : xVK fs ρ w = (fs ρ >>= xK2 (.v w)) := (rfl)
theorem e_xFK (fs : List Sl → M (List Im)) (ρ : List Sl) (l : List W) : xFK fs ρ l = (fs ρ >>= xK2 (.f l)) := (rfl)
theorem e_xV (f : List Sl → M W) (fs : List Sl → M (List Im)) (ρ : List Sl) : xV f fs ρ = (f ρ >>= xVK fs ρ) := (rfl)
theorem e_xF (f : List Sl → M (List W)) (fs : List Sl → M (List Im)) (ρ : List Sl) : xF f fs ρ = (f ρ >>= xFK fs ρ) := (rfl)
def partK (w : W) : M (Option Int) := M.ofO (asPart w)
theorem e_partK (i : Int) : partK (.int i) = pure (some i) := (rfl)
theorem e_pNone (ρ : List Sl) : pNone ρ = pure none := (rfl)
theorem e_pSome (f : List Sl → M W) (ρ : List Sl) : pSome f ρ = (f ρ >>= partK) := (rfl)
def slTK3 : W → Option Int → Option Int → M W
  | .tup ws, l, h => pure (.tup (cutW ws l h))
  | _, _, _ => M.bad
def slTK2 (fh : List Sl → M (Option Int)) (ρ : List Sl) (w : W) (l : Option Int) : M W := fh ρ >>= slTK3 w l
def slTK1 (fl fh : List Sl → M (Option Int)) (ρ : List Sl) (w : W) : M W := fl ρ >>= slTK2 fh ρ w
theorem e_slTK3 (ws : List W) (l h : Option Int) : slTK3 (.tup ws) l h = pure (.tup (cutW ws l h)) := (rfl)
theorem e_slTK2 (fh : List Sl → M (Option Int)) (ρ : List Sl) (w : W) (l : Option Int) : slTK2 fh ρ w l = (fh ρ >>= slTK3 w l) := (rfl)
theorem e_slTK1 (fl fh : List Sl → M (Option Int)) (ρ : List Sl) (w : W) : slTK1 fl fh ρ w = (fl ρ >>= slTK2 fh ρ w) := (rfl)
theorem e_slT (f : List Sl → M W) (fl fh : List Sl → M (Option Int)) (ρ : List Sl) : slT f fl fh ρ = (f ρ >>= slTK1 fl fh ρ) := by
  unfold slT slTK1 slTK2
  congr 1; funext w; congr 1; funext l; congr 1; funext h
  cases w <;> rfl
def slLK3 : W → Option Int → Option Int → M (List W)
  | .lst ws, l, h => pure (cutW ws l h)
  | .ro ws, l, h => pure (cutW ws l h)
  | _, _, _ => M.bad
def slLK2 (fh : List Sl → M (Option Int)) (ρ : List Sl) (w : W) (l : Option Int) : M (List W) := fh ρ >>= slLK3 w l
def slLK1 (fl fh : List Sl → M (Option Int)) (ρ : List Sl) (w : W) : M (List W) := fl ρ >>= slLK2 fh ρ w
theorem e_slLK3 (ws : List W) (l h : Option Int) : slLK3 (.lst ws) l h = pure (cutW ws l h) := (rfl)
theorem e_slLK3r (ws : List W) (l h : Option Int) : slLK3 (.ro ws) l h = pure (cutW ws l h) := (rfl)
theorem e_slLK2 (fh : List Sl → M (Option Int)) (ρ : List Sl) (w : W) (l : Option Int) : slLK2 fh ρ w l = (fh ρ >>= slLK3 w l) := (rfl)
theorem e_slLK1 (fl fh : List Sl → M (Option Int)) (ρ : List Sl) (w : W) : slLK1 fl fh ρ w = (fl ρ >>= slLK2 fh ρ w) := (rfl)
theorem e_slL (f : List Sl → M W) (fl fh : List Sl → M (Option Int)) (ρ : List Sl) : slL f fl fh ρ = (f ρ >>= slLK1 fl fh ρ) := by
  unfold slL slLK1 slLK2
  congr 1; funext w; congr 1; funext l; congr 1; funext h
  cases w <;> rfl
def revK : W → M (List W)
  | .lst l => pure l.reverse
  | _ => M.bad
theorem e_revK (l : List W) : revK (.lst l) = pure l.reverse := (rfl)
theorem e_revL (f : List Sl → M W) (ρ : List Sl) : revL f ρ = (f ρ >>= revK) := by
  unfold revL
  first
  | rfl
  | (congr 1; funext w; cases w <;> rfl)
def compK (vs : List Nat) (tt : W → List Sl → Option (List Sl)) (t : List Sl → M Bool) (f : List Sl → M W) (ρ : List Sl) (ws : List W) : M (List W) := if (vs.all fun v => !ownS ρ[v]?) = true then compL tt t f ws (wipeS ρ vs) else M.bad
theorem e_compK (vs : List Nat) (tt : W → List Sl → Option (List Sl)) (t : List Sl → M Bool) (f : List Sl → M W) (ρ : List Sl) (ws : List W) : compK vs tt t f ρ ws = if (vs.all fun v => !ownS ρ[v]?) = true then compL tt t f ws (wipeS ρ vs) else M.bad := (rfl)
theorem e_compE (vs : List Nat) (fi : List Sl → M (List W)) (tt : W → List Sl → Option (List Sl)) (t : List Sl → M Bool) (f : List Sl → M W) (ρ : List Sl) : compE vs fi tt t f ρ = (fi ρ >>= compK vs tt t f ρ) := (rfl)
def cK4 (y : W) (r : List W) : M (List W) := pure (y :: r)
def cK3 (tt : W → List Sl → Option (List Sl)) (t : List Sl → M Bool) (f : List Sl → M W) (ws : List W) (ρ : List Sl) (y : W) : M (List W) := compL tt t f ws ρ >>= cK4 y
def cK2 (tt : W → List Sl → Option (List Sl)) (t : List Sl → M Bool) (f : List Sl → M W) (ws : List W) (ρ ρ1 : List Sl) (b : Bool) : M (List W) := if b = true then noX (f ρ1) >>= cK3 tt t f ws ρ else compL tt t f ws ρ
def cK1 (tt : W → List Sl → Option (List Sl)) (t : List Sl → M Bool) (f : List Sl → M W) (ws : List W) (ρ : List Sl) : Option (List Sl) → M (List W)
  | some ρ1 => noX (t ρ1) >>= cK2 tt t f ws ρ ρ1
  | none => M.bad
theorem e_compL_nil (tt : W → List Sl → Option (List Sl)) (t : List Sl → M Bool) (f : List Sl → M W) (ρ : List Sl) : compL tt t f [] ρ = pure [] := (rfl)
theorem e_compL_cons (tt : W → List Sl → Option (List Sl)) (t : List Sl → M Bool) (f : List Sl → M W) (w : W) (ws : List W) (ρ : List Sl) : compL tt t f (w :: ws) ρ = cK1 tt t f ws ρ (tt w ρ) := by
  rw [compL]
  cases tt w ρ <;> rfl
theorem e_cK1 (tt : W → List Sl → Option (List Sl)) (t : List Sl → M Bool) (f : List Sl → M W) (ws : List W) (ρ ρ1 : List Sl) : cK1 tt t f ws ρ (some ρ1) = (noX (t ρ1) >>= cK2 tt t f ws ρ ρ1) := (rfl)
theorem e_cK2 (tt : W → List Sl → Option (List Sl)) (t : List Sl → M Bool) (f : List Sl → M W) (ws : List W) (ρ ρ1 : List Sl) (b : Bool) : cK2 tt t f ws ρ ρ1 b = if b = true then noX (f ρ1) >>= cK3 tt t f ws ρ else compL tt t f ws ρ := (rfl)
theorem e_cK3 (tt : W → List Sl → Option (List Sl)) (t : List Sl → M Bool) (f : List Sl → M W) (ws : List W) (ρ : List Sl) (y : W) : cK3 tt t f ws ρ y = (compL tt t f ws ρ >>= cK4 y) := (rfl)
theorem e_cK4 (y : W) (r : List W) : cK4 y r = pure (y :: r) := (rfl)
theorem e_own_no : ownS (some .no) = false := (rfl)
theorem e_own_none : ownS none = false := (rfl)
theorem e_own_v (w : W) : ownS (some (.v w)) = false := (rfl)
theorem e_own_acc (l : List W) : ownS (some (.acc l)) = true := (rfl)
theorem e_own_obj (c : Nat) (ns : List Str) (l : List W) : ownS (some (.obj c ns l)) = true := (rfl)
theorem e_yesT (ρ : List Sl) : yesT ρ = pure true := (rfl)
def callK2 (F : List W → List W → M W) (ws kws : List W) : M W := F ws kws
def callK1 (F : List W → List W → M W) (fk : List Sl → M (List W)) (ρ : List Sl) (ws : List W) : M W := fk ρ >>= callK2 F ws
theorem e_callK2 (F : List W → List W → M W) (ws kws : List W) : callK2 F ws kws = F ws kws := (rfl)
theorem e_callK1 (F : List W → List W → M W) (fk : List Sl → M (List W)) (ρ : List Sl) (ws : List W) : callK1 F fk ρ ws = (fk ρ >>= callK2 F ws) := (rfl)
theorem e_callF (F : List W → List W → M W) (fs fk : List Sl → M (List W)) (ρ : List Sl) : callF F fs fk ρ = (fs ρ >>= callK1 F fk ρ) := (rfl)
def skK2 (F : List W → List W → M W) (kws ws : List W) : M W := F ws kws
def skK1 (F : List W → List W → M W) (w : W) (kws : List W) : M W := itemsK w >>= skK2 F kws
def skK0 (F : List W → List W → M W) (fk : List Sl → M (List W)) (ρ : List Sl) (w : W) : M W := fk ρ >>= skK1 F w
theorem e_skK2 (F : List W → List W → M W) (kws ws : List W) : skK2 F kws ws = F ws kws := (rfl)
theorem e_skK1 (F : List W → List W → M W) (w : W) (kws : List W) : skK1 F w kws = (itemsK w >>= skK2 F kws) := (rfl)
theorem e_skK0 (F : List W → List W → M W) (fk : List Sl → M (List W)) (ρ : List Sl) (w : W) : skK0 F fk ρ w = (fk ρ >>= skK1 F w) := (rfl)
theorem e_callSK (F : List W → List W → M W) (fa : List Sl → M W) (fk : List Sl → M (List W)) (ρ : List Sl) : callSK F fa fk ρ = (fa ρ >>= skK0 F fk ρ) := (rfl)
def mthK3 (F : List W → List W → M W) (o : W) (ws kws : List W) : M W := F (o :: ws) kws
def mthK2 (F : List W → List W → M W) (fk : List Sl → M (List W)) (ρ : List Sl) (o : W) (ws : List W) : M W := fk ρ >>= mthK3 F o ws
def mthK1 (c : Nat) (m : Str) (F : List W → List W → M W) (fs fk : List Sl → M (List W)) (ρ : List Sl) (o : W) : M W := if recv c m o = true then fs ρ >>= mthK2 F fk ρ o else M.bad
theorem e_mthK3 (F : List W → List W → M W) (o : W) (ws kws : List W) : mthK3 F o ws kws = F (o :: ws) kws := (rfl)
theorem e_mthK2 (F : List W → List W → M W) (fk : List Sl → M (List W)) (ρ : List Sl) (o : W) (ws : List W) : mthK2 F fk ρ o ws = (fk ρ >>= mthK3 F o ws) := (rfl)
theorem e_mthK1 (c : Nat) (m : Str) (F : List W → List W → M W) (fs fk : List Sl → M (List W)) (ρ : List Sl) (o : W) : mthK1 c m F fs fk ρ o = if recv c m o = true then fs ρ >>= mthK2 F fk ρ o else M.bad := (rfl)
theorem e_methF (c : Nat) (m : Str) (F : List W → List W → M W) (fo : List Sl → M W) (fs fk : List Sl → M (List W)) (ρ : List Sl) : methF c m F fo fs fk ρ = (fo ρ >>= mthK1 c m F fs fk ρ) := (rfl)
def kwF {α : Type} (n : Nat) (F : List W → List W → M α) (ws kws : List W) : M α := if kws.length = n then F ws kws else M.bad
theorem e_kwF {α : Type} (n : Nat) (F : List W → List W → M α) (ws kws : List W) : kwF n F ws kws = if kws.length = n then F ws kws else M.bad := (rfl)
def mkF (c : Nat) (F : List W → List W → M (List Str × List W)) (ws kws : List W) : M W := insM c (F ws kws)
theorem e_mkF (c : Nat) (F : List W → List W → M (List Str × List W)) (ws kws : List W) : mkF c F ws kws = insM c (F ws kws) := (rfl)
def insK (c : Nat) (r : List Str × List W) : M W := pure (.ins c r.1 r.2)
theorem e_insK (c : Nat) (ns : List Str) (l : List W) : insK c (ns, l) = pure (.ins c ns l) := (rfl)
theorem e_insM (c : Nat) (m : M (List Str × List W)) : insM c m = (m >>= insK c) := (rfl)
theorem e_bindW (n : Nat) (ds : List W) (π : List Nat) (F : List W → M W) (ws kws : List W) : bindW n ds π F ws kws = if ws.length = n then F (sel (ws ++ kws ++ ds) π) else M.bad := (rfl)
theorem e_bindN (n : Nat) (ds : List W) (π : List Nat) (F : List W → M (List Str × List W)) (ws kws : List W) : bindN n ds π F ws kws = if ws.length = n then F (sel (ws ++ kws ++ ds) π) else M.bad := (rfl)
theorem e_bindStar (F : List W → M (List Str × List W)) (ws kws : List W) : bindStar F ws kws = if ws.length ≤ sizeLine then F (kws ++ [.tup ws]) else M.bad := (rfl)
def badX {α : Type} (_ : Exn) : M α := M.bad
theorem e_badX {α : Type} (e : Exn) : (badX e : M α) = M.bad := (rfl)
theorem e_bodyM (N : Nat) (g : List Sl → M Fl) (ws : List W) : bodyM N g ws = (g (startS N ws)).elim endF badX := (rfl)
theorem e_bodyN (N c : Nat) (g : List Sl → M Fl) (ws : List W) : bodyN N c g ws = (g (startN N c ws)).elim endN badX := (rfl)
theorem e_endF_ret (w : W) : endF (.ret w) = pure w := (rfl)
theorem e_endF_next (ρ : List Sl) : endF (.next ρ) = pure .non := (rfl)
theorem e_endF_exc (e : Exn) (ρ : List Sl) : endF (.exc e ρ) = M.throw e := (rfl)
theorem e_endN_next (ρ : List Sl) : endN (.next ρ) = objOf ρ := (rfl)
theorem e_endN_exc (e : Exn) (ρ : List Sl) : endN (.exc e ρ) = M.throw e := (rfl)
theorem e_objOf (c : Nat) (ns : List Str) (l : List W) (ρ : List Sl) : objOf (.obj c ns l :: ρ) = pure (ns, l) := (rfl)
theorem e_recv (c c' : Nat) (m : Str) (ns : List Str) (l : List W) : recv c m (.ins c' ns l) = (c' == c && !(ns.contains m)) := (rfl)
theorem e_fldW (cs : List Nat) (f : Str) (c : Nat) (ns : List Str) (l : List W) : fldW cs f (.ins c ns l) = if cs.contains c = true then look f ns l else none := (rfl)
theorem e_look (f n : Str) (ns : List Str) (w : W) (ws : List W) : look f (n :: ns) (w :: ws) = if n = f then some w else look f ns ws := (rfl)
def fldK (cs : List Nat) (f : Str) : Option Sl → M W
  | some (.obj c ns l) => if cs.contains c = true then M.ofO (look f ns l) else M.bad
  | _ => M.bad
theorem e_fldK (cs : List Nat) (f : Str) (c : Nat) (ns : List Str) (l : List W) : fldK cs f (some (.obj c ns l)) = if cs.contains c = true then M.ofO (look f ns l) else M.bad := (rfl)
theorem e_fldO (i : Nat) (cs : List Nat) (f : Str) (ρ : List Sl) : fldO i cs f ρ = fldK cs f ρ[i]? := by
  unfold fldO fldK
  rfl
theorem e_isIns (c c' : Nat) (ns : List Str) (l : List W) : isIns c (.ins c' ns l) = (c' == c) := (rfl)
theorem e_isIns_int (c : Nat) (i : Int) : isIns c (.int i) = false := (rfl)
theorem e_isIns_bl (c : Nat) (i : Bool) : isIns c (.bl i) = false := (rfl)
theorem e_isIns_str (c : Nat) (i : Str) : isIns c (.str i) = false := (rfl)
theorem e_isIns_non (c : Nat) : isIns c .non = false := (rfl)
theorem e_isIns_tup (c : Nat) (i : List W) : isIns c (.tup i) = false := (rfl)
theorem e_isIns_lst (c : Nat) (i : List W) : isIns c (.lst i) = false := (rfl)
theorem e_asBool (b : Bool) : asBool (.bl b) = pure (.bl b) := (rfl)
theorem e_negBool (b : Bool) : negBool (.bl b) = pure (.bl (!b)) := (rfl)
theorem e_addI (i j : Int) : addI (.int i) (.int j) = some (.int (i + j)) := (rfl)
theorem e_addW (i j : Int) : addW (.int i) (.int j) = some (.int (i + j)) := (rfl)
theorem e_subI (i j : Int) : subI (.int i) (.int j) = some (.int (i - j)) := (rfl)
theorem e_ltI (i j : Int) : ltI (.int i) (.int j) = some (.bl (decide (i < j))) := (rfl)
theorem e_leI (i j : Int) : leI (.int i) (.int j) = some (.bl (decide (i ≤ j))) := (rfl)
theorem e_gtI (i j : Int) : gtI (.int i) (.int j) = some (.bl (decide (j < i))) := (rfl)
theorem e_geI (i j : Int) : geI (.int i) (.int j) = some (.bl (decide (j ≤ i))) := (rfl)
theorem e_addL (a b : List W) (h : a.length + b.length ≤ sizeLine) : addW (.lst a) (.lst b) = some (.lst (a ++ b)) := by
  simp only [addW, addI, int2, addS, catL, catT, h, if_true, Option.none_or, Option.some_or]
theorem e_addT (a b : List W) (h : a.length + b.length ≤ sizeLine) : addW (.tup a) (.tup b) = some (.tup (a ++ b)) := by
  simp only [addW, addI, int2, addS, catL, catT, h, if_true, Option.none_or, Option.some_or]
theorem e_addS (a b : Str) (h : a.length + b.length ≤ sizeLine) : addW (.str a) (.str b) = some (.str (a ++ b)) := by
  simp only [addW, addI, int2, addS, catL, catT, h, if_true, Option.none_or, Option.some_or]
theorem e_mulW (i j : Int) (h : (-(2 ^ 64) < i ∧ i < 2 ^ 64) ∨ (-(2 ^ 64) < j ∧ j < 2 ^ 64)) : mulW (.int i) (.int j) = some (.int (i * j)) := by
  simp only [mulW, mulI, int2, decide_eq_true h, if_true, Option.some_or]
theorem e_modI (i j : Int) (h : 0 < j) : modI (.int i) (.int j) = some (.int (i % j)) := by
  simp only [modI, int2, decide_eq_true h, if_true]
theorem e_fdivI (i j : Int) (h : 0 < j ∧ j.natAbs.log2 < 9000) : fdivI (.int i) (.int j) = some (.int (i / j)) := by
  simp only [fdivI, int2, decide_eq_true h, if_true]
theorem e_powI (i j : Int) (h : 0 ≤ j ∧ j ≤ 1000000 ∧ i.natAbs < 2 ^ 64) : powI (.int i) (.int j) = some (.int (i ^ j.toNat)) := by
  simp only [powI, int2, decide_eq_true h, if_true]
theorem e_pow9 : powI (.int 10) (.int 9) = some (.int 1000000000) := e_powI 10 9 (by decide)
theorem e_pow18 : powI (.int 10) (.int 18) = some (.int 1000000000000000000) := e_powI 10 18 (by decide)
theorem e_pow20 : powI (.int 10) (.int 20) = some (.int 100000000000000000000) := e_powI 10 20 (by decide)
theorem e_lenT (l : List W) : lenW (.tup l) = some (.int l.length) := (rfl)
theorem e_lenL (l : List W) : lenW (.lst l) = some (.int l.length) := (rfl)
theorem e_intI (i : Int) : intW (.int i) = some (.int i) := (rfl)
theorem e_intB (b : Bool) : intW (.bl b) = some (.int (if b then 1 else 0)) := (rfl)
theorem e_absW (i : Int) : absW (.int i) = some (.int (if i < 0 then -i else i)) := by
  simp only [absW]
theorem e_tupleL (l : List W) : tupleW (.lst l) = some (.tup l) := (rfl)
theorem e_tupleT (l : List W) : tupleW (.tup l) = some (.tup l) := (rfl)
theorem e_itemsL (l : List W) : items (.lst l) = some l := (rfl)
theorem e_itemsT (l : List W) : items (.tup l) = some l := (rfl)
theorem e_ixL (l : List W) (i : Int) : ixW (.lst l) (.int i) = L2.atI l i := (rfl)
theorem e_ixT (l : List W) (i : Int) : ixW (.tup l) (.int i) = L2.atI l i := (rfl)
theorem e_allW (bs : List Bool) : allW (.lst (bs.map .bl)) = some (.bl (bs.all id)) := by
  rw [allW, asBools_map]; rfl
theorem e_anyW (bs : List Bool) : anyW (.lst (bs.map .bl)) = some (.bl (bs.any id)) := by
  rw [anyW, asBools_map]; rfl
theorem e_sumW (bs : List Int) : sumW (.lst (bs.map .int)) = some (.int bs.sum) := by
  rw [sumW, asInts_map]; rfl
end Sh


namespace Sh
open PySem PySem.Spec PyProof.Rows L2
structure EBase (tl : List Value) (B nw ini : String) : Prop where
  f : ExcBaseFacts B nw ini tl
  pass : ∀ me : Value, PySem.refuseLoop me "__setattr__" tl = pure ()
  obj : tl.contains (.type "object") = true
theorem eb_value : EBase [.type "ValueError", .type "Exception", .type "BaseException", .type "object"] "ValueError" "ValueError.__new__" "ValueError.__init__" := ⟨F.excBase_ValueError, F.store_ValueError.passes, by decide +kernel⟩
theorem eb_index : EBase [.type "IndexError", .type "LookupError", .type "Exception", .type "BaseException", .type "object"] "IndexError" "IndexError.__new__" "IndexError.__init__" := ⟨F.excBase_IndexError, F.store_IndexError.passes, by decide +kernel⟩
structure XC (K : PySem.W.Frag) (C : Addr) (tl : List Value) (nw : String) : Prop where
  cls : ∃ nm q N bs bm sn sub ab col dd k0 k1 k2 k3 k5, K.lookup C = some (excClassObj nm q C N bs bm true sn sub ab col dd k0 k1 k2 k3 k5 nw) ∧ PySem.W.excTail tl bm = true
  sa : PySem.W.findIn K (.ref C) "__setattr__" = some (some (.builtin "object.__setattr__"))
  exC : PySem.W.subIn K (.ref C) (.type "BaseException") = some true
  tyC : PySem.W.typeIn K (.ref C) = some (.type "type")
  kC : PySem.W.keepIn K (.ref C) = true
  ga : PySem.W.findIn K (.ref C) "__getattribute__" = some (some (.builtin "BaseException.__getattribute__"))
  gg : PySem.W.findIn K (.ref C) "__getattr__" = some none
  hdC : PySem.W.hasDictIn K C = true
def xcB (K : PySem.W.Frag) (C : Addr) (tl : List Value) (nw : String) : Bool := (match K.lookup C with
  | some ⟨.type "type", _, .cls cd, sl⟩ => (match cd.mro, sl.toList with
    | .ref D :: bm, [_, _, _, _, some (.builtin n), _] => D == C && (n == nw && (!cd.hasDel && (cd.hasDict && PySem.W.excTail tl bm)))
    | _, _ => false)
  | _ => false) && (He.eqO (PySem.W.findIn K (.ref C) "__setattr__") (some (some (.builtin "object.__setattr__"))) && (decide (PySem.W.subIn K (.ref C) (.type "BaseException") = some true) && (decide (PySem.W.typeIn K (.ref C) = some (.type "type")) && (PySem.W.keepIn K (.ref C) &&
    (He.eqO (PySem.W.findIn K (.ref C) "__getattribute__") (some (some (.builtin "BaseException.__getattribute__"))) && (He.eqO (PySem.W.findIn K (.ref C) "__getattr__") (some none) && PySem.W.hasDictIn K C))))))
theorem xcB_ok {K : PySem.W.Frag} {C : Addr} {tl : List Value} {nw : String} (h : xcB K C tl nw = true) : XC K C tl nw := by
  obtain ⟨h1, h⟩ := He.ba h
  obtain ⟨h2, h⟩ := He.ba h
  obtain ⟨h3, h⟩ := He.ba h
  obtain ⟨h4, h⟩ := He.ba h
  obtain ⟨h5, h⟩ := He.ba h
  obtain ⟨h6, h⟩ := He.ba h
  obtain ⟨h7, h8⟩ := He.ba h
  refine ⟨?_, He.eqO_ok h2, of_decide_eq_true h3, of_decide_eq_true h4, h5, He.eqO_ok h6, He.eqO_ok h7, h8⟩
  split at h1
  · rename_i od cd sl lk
    split at h1
    · rename_i D bm p0 p1 p2 p3 n p5 em es
      obtain ⟨a1, h1⟩ := He.ba h1
      obtain ⟨a2, h1⟩ := He.ba h1
      obtain ⟨a3, h1⟩ := He.ba h1
      obtain ⟨a4, a5⟩ := He.ba h1
      have a1 := beq_iff_eq.mp a1
      have a2 := beq_iff_eq.mp a2
      subst a1 a2
      obtain ⟨nm, bs, mro, ns, qn, hd, sn, sub, ab, col, del⟩ := cd
      have a3 : del = false := by simpa using a3
      have a4 : hd = true := a4
      have em : mro = .ref D :: bm := em
      subst a3 a4 em
      obtain ⟨l⟩ := sl
      have es : l = [p0, p1, p2, p3, some (.builtin n), p5] := es
      subst es
      exact ⟨nm, qn, ns, bs, bm, sn, sub, ab, col, od, p0, p1, p2, p3, p5, lk, a5⟩
    · cases h1
  · cases h1
section
open Builtin Builtin.ObjectAttr PySem.HandSPX
theorem osaB {P : Program} {w : World} {A : Around} {R : Result → Shared → Prop} {hp : Heap} {g : Array GenState} {d : Drawn} {t : Nat} {os : OsState} {K : PySem.W.Frag} {nm : Str} {tk : Tok} {v : Value} {x C : Addr} {fv : Array Value} {cd : ClassData} {tl bm : List Value} {B nw ini : String} (eb : EBase tl B nw ini)
    (X : K.In hp) (hx : hp.get? x = some { cls := .ref C, data := .fields fv }) (hcd : PySem.W.clsIn K C = some cd) (hm : cd.mro = .ref C :: bm) (ht : PySem.W.excTail tl bm = true) (hh : cd.hasDict = true) (ha : PySem.W.findIn K (.ref C) nm = some none)
    (hq : ∀ h' tk' dx, (∀ b o, b ≠ x → hp.get? b = some o → h'.get? b = some o) → hp.objs.size ≤ dx → dx ≠ x → h'.get? x = some { cls := .ref C, dict := some dx, data := .fields fv } → h'.Ns1 dx (fun y => if y = nm then some v else none) → R (.ok (.ret .none)) ⟨h', g, d, tk', os⟩) :
    codeAny (model P w) A (.call (.builtin "object.__setattr__") ⟨[.ref x, .str nm tk, v], []⟩) R ⟨hp, g, d, t, os⟩ := by
  have I : PySem.W.InstAt hp x { cls := .ref C, data := .fields fv } C none := ⟨hx, rfl, rfl, trivial⟩
  have hob : cd.mro.contains (.type "object") = true := by rw [hm, List.contains_cons, PySem.W.excTail_contains "object" _ ht, eb.obj, Bool.or_true]
  have hxs : x ≠ hp.objs.size := Nat.ne_of_lt (Heap.lt_size hx)
  have isO : PySem.W.Looks (model P w) hp (isInstance (.ref x) (.type "object")) true := I.type.andThen (PySem.W.looks_mroIn X (by
    unfold PySem.W.mroIn
    rw [hcd, Option.bind_some, if_neg (by rw [hm]; simp), hob]))
  refine codeAny_call_builtin F.store_object.slot.plain F.store_object.entry (@PySem.W.check_slot (model P w) _ _ ⟨hp, g, d, t, os⟩ "object.__setattr__" "object" "__setattr__" (.ref x) [.str nm tk, v] [] _ F.store_object.kind F.store_object.split isO (F.store_object.args (.ref x) (.str nm tk) v) ?_)
  have mr : PySem.W.Looks (model P w) hp (mroOf (.ref C)) cd.mro := (PySem.W.looks_clsIn X hcd).andThen .now
  have nT : PySem.W.Looks (model P w) hp (storeTaker? none) none := .now
  have cl : PySem.W.Looks (model P w) hp (classData C) cd := PySem.W.looks_clsIn X hcd
  rw [PySem.W.osa_eq, refuse_eq]
  refine wpAny_bind (wpAny_bind (I.type.at (wpAny_bind (mr.at ?_))))
  rw [hm, refuseLoop_ref, PySem.W.excTail_pass _ (eb.pass _) _ ht]
  refine wpAny_pure (wpAny_bind (I.type.at (wpAny_bind ((PySem.W.looks_findIn X ha).at (wpAny_bind (nT.at ?_))))))
  show wpAny _ _ (storeInOwnDict (.ref x) (.ref C) (.str nm tk) nm v false) _ _ _
  obtain ⟨n1, n2, n3, n4, n5, hd, n6, n7, n8, n9, n10⟩ := cd
  have hh : hd = true := hh
  subst hh
  unfold storeInOwnDict ownDictForStores
  repeat (first | with_reducible refine store_in_new ?_ ?_ | with_reducible refine wpAny_loadPart_at hx ?_ | with_reducible refine cl.at ?_ | wp_step)
  · exact ⟨_, #[], _, (Heap.get?_update_ne _ _ _ _ hxs.symm).trans (Heap.get?_push_at rfl rfl), rfl, fun e he => absurd he (by simp), fun _ => rfl⟩
  · intro h' tk' hn' hs
    have hx1 : (hp.push { cls := .type "dict", data := .dict #[] }).get? x = some { cls := .ref C, data := .fields fv } := Heap.get?_push_of_some _ hx
    refine hq h' tk' hp.objs.size (fun b o hb ho => ?_) (Nat.le_refl _) hxs.symm ?_ hn'
    · exact (hs.2 b (Nat.ne_of_lt (Heap.lt_size ho))).trans ((Heap.get?_update_ne _ _ _ _ hb).trans (Heap.get?_push_of_some _ ho))
    · exact (hs.2 x hxs).trans (Heap.get?_update_self _ hx1 rfl)
end
section
variable {X : Cx} {pins : List (Addr × Obj)} {σ : L2.St} {H : Hp} {s : Shared} {a C : Addr} {f : Str} {y : V} {u : Value} {tl : List Value} {B nw ini : String}
theorem ostB {A : Around} {Q : Unit → Shared → Prop} {E : Value → Shared → Prop} (eb : EBase tl B nw ini) (T : XC X.K C tl nw) (I : L2.Inv X pins σ H s) (e : H a = some (exo a C none)) (hno : PySem.W.findIn X.K (.ref C) f = some none) (ry : RelV y u)
    (h : ∀ dx s', H dx = none → dx ≠ a → L2.Inv X pins σ (upd (upd H dx (exd dx [(f, y)])) a (exo a C (some dx))) s' → Q () s') : wpAny (model X.prog X.w) A (setAttr (.ref a) f u) Q E s := by
  obtain ⟨nm, q, N, bs, bm, sn, sub, ab, col, dd, k0, k1, k2, k3, k5, lk, ht⟩ := T.cls
  have hcl : PySem.W.clsIn X.K C = some { name := nm, bases := bs, mro := .ref C :: bm, ns := N, qualname := q, hasDict := true, slotNames := sn, subclasses := sub, abstract := ab, collection := col, hasDel := false } := by
    unfold PySem.W.clsIn
    rw [lk] <;> rfl
  obtain ⟨t1, ho⟩ := exo_at I.hok e
  obtain ⟨hp, g, d, t, os⟩ := s
  refine PySem.W.set_plain I.kIn (ox := { cls := .ref C, dict := none, data := .fields #[.ref t1, .none, .none, .none, .bool false, .none] }) (od := none) ⟨ho, rfl, rfl, trivial⟩ T.sa (osaB eb I.kIn ho hcl rfl ht rfl hno fun h' tk' dx k dn dne hx hn => ?_)
  have hnd : H dx = none := I.hok.fresh dn
  have old : ∀ {b : Addr} {o : Obj}, hp.get? b = some o → b ≠ dx := fun {b o} q => Nat.ne_of_lt (Nat.lt_of_lt_of_le (Heap.lt_size q) dn)
  have off : ∀ {b : Addr}, H b = none → b ≠ a := fun {b} n z => by rw [z, e] at n; cases n
  have un : Un X.fs [] H (upd (upd H dx (exd dx [(f, y)])) a (exo a C (some dx))) hp h' :=
    ⟨fun b o q n _ _ => k b o (off n) q, fun b o q n _ _ => ⟨o.slots, k b o (off n) q⟩, fun b o q n _ => by rw [upd_ne (off n), upd_ne (old q)]; exact n,
      fun b o q _ => by
        by_cases hb : b = a
        · exact ⟨_, by rw [hb]; exact hx⟩
        · exact ⟨o, k b o hb q⟩,
      fun b xs q => by rw [upd_ne (at_ne e q exo_tup), upd_ne (ne_of_none q hnd)]; exact q, fun b o v q => by rw [upd_ne (at_ne e q exo_frz), upd_ne (ne_of_none q hnd)]; exact q,
      fun b ps q => ⟨#[], by rw [upd_ne (at_ne e q exo_tbl), upd_ne (ne_of_none q hnd), q]; simp⟩⟩
  refine h dx _ hnd dne (I.un (t' := tk') un fun b o q => ?_)
  by_cases hb : b = a
  · subst hb
    rw [upd_same] at q
    cases q
    exact exo_ok hx
  · rw [upd_ne hb] at q
    by_cases hd : b = dx
    · subst hd
      rw [upd_same] at q
      cases q
      exact exd_ok hn (relO_put (fs := []) ry fun _ => True.intro)
    · rw [upd_ne hd] at q
      refine (I.hok b o q).stay (fun c v hc z => k c v ?_ z) (fun c hc => ?_) fun c xs hc => ?_
      · rcases hc with hc | hc
        · rw [hc]; exact hb
        · exact at_ne e hc exo_own
      · rw [upd_ne (at_ne e hc exo_own), upd_ne (ne_of_none hc hnd)]; exact hc
      · rw [upd_ne (at_ne e hc exo_tup), upd_ne (ne_of_none hc hnd)]; exact hc
def spX (K : PySem.W.Frag) (f : Str) : Sp := fun vs H Q _ => ∃ (a C : Addr) (y : V) (tl : List Value) (B nw ini : String), vs = [.ref a, y] ∧ EBase tl B nw ini ∧ XC K C tl nw ∧ PySem.W.findIn K (.ref C) f = some none ∧ H a = some (exo a C none) ∧
  ∀ dx, H dx = none → dx ≠ a → Q .non (upd (upd H dx (exd dx [(f, y)])) a (exo a C (some dx)))
def tOstB (K : PySem.W.Frag) (f : Str) (to te : TE) : TS := fun D σ H => te σ H fun y H1 => to σ H1 fun x H2 => ∃ (a C : Addr) (tl : List Value) (B nw ini : String), x = .ref a ∧ EBase tl B nw ini ∧ XC K C tl nw ∧ PySem.W.findIn K (.ref C) f = some none ∧ H2 a = some (exo a C none) ∧
  ∀ dx, H2 dx = none → dx ≠ a → D.nx σ (upd (upd H2 dx (exd dx [(f, y)])) a (exo a C (some dx)))
theorem ps_ostB {o e : Expr} {to te : TE} {p' pos : Pos} (ho : PE X o to) (he : PE X e te) (hs : swapsWith e (some (.Attribute o f p')) pos.line X.env = pure false := by rfl) : PS X (.Assign [.Attribute o f p'] e pos) (tOstB X.K f to te) := by
  refine ⟨fun pins s σ H D I h => plainObj_wpAny_Assign_Attribute (thn (he.run pins s σ H _ I h) fun v s1 ⟨y, H1, I1, r1, q1⟩ => thn (ho.run pins s1 σ H1 _ I1 q1) fun u s2 ⟨x, H2, I2, r2, a, C, tl, B, nw, ini, ex, eb, T, hno, ea, q⟩ => ?_) hs⟩
  subst ex
  obtain rfl : u = Value.ref a := r2
  exact ostB eb T I2 ea hno r1 fun dx s' n ne J => ⟨σ, _, J, q dx n ne⟩
end
section
variable {P : Program} {w : World} {K : PySem.W.Frag} {mg : Str → Option Value} {base : Heap} {x qual f p0 p1 : Str} {params : Arguments} {scope : Scope} {fI : Addr} {fd : FuncData} {q1 q2 q3 q4 : Pos}
theorem init_ok (F : FunD K x qual params [.Assign [.Attribute (.Name p0 q1) f q2] (.Name p1 q3) q4] scope [] [] fI fd) (S : FnScope [p0, p1] [p0, p1] scope) (d0 : (p0 == ("__debug__" : Str)) = false := by decide) (c0 : (p0 == ("__classdict__" : Str)) = false := by decide)
    (d1 : (p1 == ("__debug__" : Str)) = false := by decide) (c1 : (p1 == ("__classdict__" : Str)) = false := by decide) (v0 : Vis scope p0 := by first | exact Or.inl rfl | exact Or.inr (Or.inl rfl) | exact Or.inr (Or.inr rfl)) (v1 : Vis scope p1 := by first | exact Or.inl rfl | exact Or.inr (Or.inl rfl) | exact Or.inr (Or.inr rfl)) :
    FnOk P w K mg base CX0 1 fI fd [p0, p1] (spX K f) := by
  refine F.ok S (fun vs H Q E h => ?_) (fun cdv A outer s H vs Q E hr h => nox_ex ?_)
  · obtain ⟨a, C, y, tl, B, nw, ini, rfl, _⟩ := h
    rfl
  · obtain ⟨a, C, y, tl, B, nw, ini, rfl, eb, T, hno, ea, q⟩ := h
    refine ⟨_, pss_one (ps_ostB (pe_var (i := 0) rfl v0 d0 c0) (pe_var (i := 1) rfl v1 d1 c1)), ?_⟩
    exact ⟨_, rfl, _, rfl, a, C, tl, B, nw, ini, rfl, eb, T, hno, ea, fun dx n ne => q dx n ne⟩
end
section
variable {X : Cx} {e : Expr} {te : TE} {p pos : Pos} {C fI : Addr} {fd : FuncData} {ps : List Str} {x f : Str} {tl : List Value} {B nw ini : String}
theorem upd_back {H1 : Hp} {a dx : Addr} {y : V} {C : Addr} (n : H1 a = none) (nd : dx ≠ a) : upd (del (upd (upd (upd H1 a (exo a C none)) dx (exd dx [(f, y)])) a (exo a C (some dx))) a) dx (.xd [(f, y)]) = upd H1 dx (.xd [(f, y)]) := by
  funext b
  by_cases h1 : b = dx
  · subst h1; rw [upd_same, upd_same]
  · rw [upd_ne h1, upd_ne h1]
    by_cases h2 : b = a
    · subst h2; rw [del_same, n]
    · rw [del_ne h2, upd_ne h2, upd_ne h1, upd_ne h2]
theorem pmkB (eb : EBase tl B nw ini) (T : XC X.K C tl nw) (iC : PySem.W.findIn X.K (.ref C) "__init__" = some (some (.ref fI))) (tI : PySem.W.typeIn X.K (.ref fI) = some (.type "function")) (hno : PySem.W.findIn X.K (.ref C) f = some none)
    (F1 : FnOk X.prog X.w X.K X.mg X.base CX0 1 fI fd ps (spX X.K f)) (hr : Room 2 X.A) (hb : Binds X.K fd ps []) (hps : ps.length = 2) (hg : Gl X x) (hm : X.mg x = some (.ref C)) (he : PE X e te) (hdb : (x == ("__debug__" : Str)) = false := by decide) (hs : starEach [e] X.env = (false, eval e X.env) :: starEach [] X.env := by rfl) :
    PMk X (.Call (.Name x p) [e] [] pos) (fun σ H Q => te σ H fun y H1 => ∀ d, H1 d = none → Q (.ref C) (some d) (upd H1 d (.xd [(f, y)]))) := by
  intro pins s σ H Q I h
  obtain ⟨nm, q, N, bs, bm, sn, sub, ab, col, dd, k0, k1, k2, k3, k5, lk, ht⟩ := T.cls
  refine wpAny_Call_Name_kw (ld_glob I hg hm ?_ hdb)
  refine PySem.W.callWith_K (h₀ := X.base) I.ok.mod.kin T.kC (thn ((pa_cons he pa_nil hs).run pos pins s σ H (fun vs H1 => match vs with | [y] => ∀ d, H1 d = none → Q (.ref C) (some d) (upd H1 d (.xd [(f, y)])) | _ => False) I h) fun us s1 ⟨vs, H1, I1, r1, qa⟩ => ⟨I1.kIn, ?_⟩) hs (by rfl)
  show wpAny _ _ (call (.ref C) us) _ _ _
  match vs, r1, qa with
  | [y], .cons (b := u) ry .nil, qa =>
  obtain ⟨hp, g, dr, tk, os⟩ := s1
  have hsz : hp.objs.size ≤ hp.objs.size + 1 := Nat.le_succ _
  have hn : H1 (hp.objs.size + 1) = none := I1.hok.fresh hsz
  have kk : ∀ b o, hp.get? b = some o → ((hp.push (PySem.W.kdv_tup [u])).push (PySem.HandSPX.excO C hp.objs.size)).get? b = some o := fun b o e => Heap.get?_push_of_some _ (Heap.get?_push_of_some _ e)
  have hget : ((hp.push (PySem.W.kdv_tup [u])).push (PySem.HandSPX.excO C hp.objs.size)).get? (hp.objs.size + 1) = some (PySem.HandSPX.excO C hp.objs.size) := by heap_get
  have I2 : L2.Inv X pins σ (upd H1 (hp.objs.size + 1) (exo (hp.objs.size + 1) C none)) ⟨(hp.push (PySem.W.kdv_tup [u])).push (PySem.HandSPX.excO C hp.objs.size), g, dr, tk, os⟩ :=
    I1.laid (t' := tk) (a := hp.objs.size + 1) (o := exo (hp.objs.size + 1) C none) (h' := (hp.push (PySem.W.kdv_tup [u])).push (PySem.HandSPX.excO C hp.objs.size)) kk hsz (exo_ok hget)
  have r2 : Vals [V.ref (hp.objs.size + 1), y] [Value.ref (hp.objs.size + 1), u] := .cons rfl (.cons ry .nil)
  have hsp : spX X.K f [V.ref (hp.objs.size + 1), y] (upd H1 (hp.objs.size + 1) (exo (hp.objs.size + 1) C none)) (fun v H2 => v = .non ∧ ∃ (d : Addr) (fs : List (Str × V)), H2 (hp.objs.size + 1) = some (exo (hp.objs.size + 1) C (some d)) ∧ H2 d = some (exd d fs) ∧ H1 d = none ∧ Q (.ref C) (some d) (upd (del H2 (hp.objs.size + 1)) d (.xd fs))) (fun _ _ _ => False) := by
    refine ⟨_, C, y, tl, B, nw, ini, rfl, eb, T, hno, upd_same, fun dx n ne => ⟨rfl, dx, [(f, y)], upd_same, ?_, ?_, ?_⟩⟩
    · rw [upd_ne ne, upd_same]
    · rw [upd_ne ne] at n; exact n
    · rw [upd_back hn ne]
      rw [upd_ne ne] at n
      exact qa dx n
  refine wpAny_call (PySem.HandSPX.call_own eb.f (fun Y => PySem.W.excTail_contains Y bm ht) (I1.kIn _ _ lk) (PySem.W.looks_findIn I1.kIn iC) (fun me => PySem.W.bind_fn I1.kIn me tI) (by show 1 ≤ sizeLine; rw [sizeLine_eq]; omega)
    (codeAny_mono (F1.run _ X.stack _ _ ⟨[Value.ref (hp.objs.size + 1), u], []⟩ [Value.ref (hp.objs.size + 1), u] _ _ (fun _ _ _ => False) (hr.make C [u] []) (I2.env0.make C [u] []) (hb _ [Value.ref (hp.objs.size + 1), u] I2.kIn (by rw [hps]; rfl)) r2 hsp) fun r s' hq' => ?_))
  cases r with
  | error er => exact (pass0 : Passes CX0 X _) pins σ _ _ er s' I2 hq'
  | ok fl =>
    cases fl with
    | ret v =>
      obtain ⟨v', H2, os2, bare2, un2, hok2, rv, ev, d, fs, ea, ed, hd1, q2⟩ := hq'
      subst ev
      obtain ⟨h2, g2, d2, t2, os'⟩ := s'
      exact ⟨rv, mk_end (raises_own T.exC T.tyC) I1 hsz kk un2 hok2 os2 bare2 ea ed hd1 q2⟩
    | next => exact False.elim hq'
    | brk => exact False.elim hq'
    | cont => exact False.elim hq'
end
section
variable {X : Cx} {cl : Cl} {Wx : WX} {e : Expr} {fe : List Sl → M W} {p pos pos' : Pos} {fI : Addr} {fd : FuncData} {ps : List Str} {x f : Str} {tl : List Value} {B nw ini : String} {c : Nat}
def rsS (c : Nat) (f : Str) (fe : List Sl → M W) (ρ : List Sl) : M Fl := (fe ρ).elim (fun w => pure (.exc ⟨c, [f], [w]⟩ ρ)) (exN ρ)
theorem psi_raise (hc : X.calm = true) (tk : Takes X Wx) (eb : EBase tl B nw ini) (T : XC X.K (cl c) tl nw) (iC : PySem.W.findIn X.K (.ref (cl c)) "__init__" = some (some (.ref fI))) (tI : PySem.W.typeIn X.K (.ref fI) = some (.type "function")) (hno : PySem.W.findIn X.K (.ref (cl c)) f = some none)
    (F1 : FnOk X.prog X.w X.K X.mg X.base CX0 1 fI fd ps (spX X.K f)) (hr : Room 2 X.A) (hb : Binds X.K fd ps []) (hps : ps.length = 2) (hg : Gl X x) (hm : X.mg x = some (.ref (cl c))) (he : PEi cl Wx X e fe) (hdb : (x == ("__debug__" : Str)) = false := by decide) (hs : starEach [e] X.env = (false, eval e X.env) :: starEach [] X.env := by rfl) :
    PSi cl Wx X (.Raise (some (.Call (.Name x p) [e] [] pos)) none pos') (rsS c f fe) := by
  refine ⟨fun pins s σ H D I ⟨G, ρ, S, q⟩ => (ps_raise hc tk (pmkB eb T iC tI hno F1 hr hb hps hg hm he hdb hs)).run pins s σ H D I ⟨G, ρ, S, (fe ρ).mono (fun w q v H1 S1 k1 r1 d nd => ?_) (fun _ z => exE_of_okS (D := D) z) q⟩⟩
  have gr := upd_grow (o := .xd [(f, v)]) nd
  have S2 := S1.grow gr
  have k2 : Keep G.dl H (upd H1 d (.xd [(f, v)])) := k1.trans (.of gr)
  refine q G.oa _ _ σ _ S2 (S2.kp' k2) ⟨rfl, .inr ⟨d, _, rfl, upd_same, rfl, .cons (r1.keep (S1.kp (.of gr))) .nil, S1.fresh nd⟩⟩
end
end Sh


namespace Sh
open PySem PySem.Spec PyProof.Rows L2
def noXc : Sl → Bool
  | .xcp _ => false
  | _ => true
def clr (ρ : List Sl) : Bool := ρ.all noXc
def Cl.wx (cl : Cl) (a : Addr) (c : Value) (d : Option Addr) : Cl := ⟨cl.f, some (a, c, d)⟩
section
variable {K : PySem.W.Frag} {cl cl2 : Cl} {G : Gd} {ρ : List Sl} {σ : L2.St} {H : Hp}
theorem clr_no (h : clr ρ = true) {j : Nat} {e : Exn} : ρ[j]? ≠ some (.xcp e) := fun q => by
  have := List.all_eq_true.mp h _ (List.mem_of_getElem? q)
  cases this
theorem SR.recl (S : SR K cl G ρ σ H) (hf : cl2.f = cl.f) (h : clr ρ = true) : SR K cl2 G ρ σ H := by
  obtain ⟨g, q⟩ := cl2
  have hf : g = cl.f := hf
  subst hf
  exact ⟨S.len, S.v, S.acc, S.obj, S.oaI, S.inj, S.new, S.tmpN, S.tmpO, S.keep, S.trk, S.trk0, S.dlA, S.deal, fun j e z => (clr_no h z).elim⟩
theorem SR.setX {i : Nat} {e : Exn} {a : Addr} {c : Value} {d : Option Addr} (S : SR K cl G ρ σ H) (x : XRep K cl G.Av G.dl H e c d) (h : clr ρ = true) :
    SR K (cl.wx a c d) (G.to fun j => if j = i then none else G.oa j) (ρ.set i (.xcp e)) (σ.set i (some (.ref a))) H ∧ Kp G.Av (G.to fun j => if j = i then none else G.oa j).Av H H := by
  obtain ⟨S1, k1⟩ := S.setV (i := i) (w := .non) (v := .non) .non
  refine ⟨⟨by simp [S.len], fun j w e => ?_, fun j ws e => ?_, fun j c ns ws e => ?_, fun j b h => ?_, S1.inj, S1.new, S1.tmpN, S1.tmpO, S1.keep, S1.trk, S1.trk0, S1.dlA, S1.deal, fun j e' q => ?_⟩, k1⟩
  · by_cases hj : i = j
    · subst hj
      by_cases hl : i < ρ.length
      · rw [List.getElem?_set_self hl] at e; cases e
      · rw [List.getElem?_eq_none (by simpa using hl)] at e; cases e
    · have := S1.v j w (by rw [List.getElem?_set_ne hj] at e ⊢; exact e)
      rwa [List.getElem?_set_ne hj] at this ⊢
  · by_cases hj : i = j
    · subst hj
      by_cases hl : i < ρ.length
      · rw [List.getElem?_set_self hl] at e; cases e
      · rw [List.getElem?_eq_none (by simpa using hl)] at e; cases e
    · have := S1.acc j ws (by rw [List.getElem?_set_ne hj] at e ⊢; exact e)
      rwa [List.getElem?_set_ne hj] at this ⊢
  · by_cases hj : i = j
    · subst hj
      by_cases hl : i < ρ.length
      · rw [List.getElem?_set_self hl] at e; cases e
      · rw [List.getElem?_eq_none (by simpa using hl)] at e; cases e
    · have := S1.obj j c ns ws (by rw [List.getElem?_set_ne hj] at e ⊢; exact e)
      rwa [List.getElem?_set_ne hj] at this ⊢
  · have hj : i ≠ j := fun e => by subst e; simp [Gd.to] at h
    have := S1.oaI j b h
    rwa [List.getElem?_set_ne hj] at this ⊢
  · by_cases hj : i = j
    · subst hj
      by_cases hl : i < ρ.length
      · rw [List.getElem?_set_self hl] at q
        cases q
        exact ⟨a, c, d, rfl, List.getElem?_set_self (by rw [S.len]; exact hl), x.keep k1⟩
      · rw [List.getElem?_eq_none (by simpa using hl)] at q
        cases q
    · rw [List.getElem?_set_ne hj] at q
      exact (clr_no h q).elim
end
def goneK (i : Nat) : Fl → M Fl
  | .next ρ => if ownS ρ[i]? = false ∧ clr (ρ.set i .no) = true then pure (.next (ρ.set i .no)) else M.bad
  | .brk ρ => if ownS ρ[i]? = false ∧ clr (ρ.set i .no) = true then pure (.brk (ρ.set i .no)) else M.bad
  | .cont ρ => if ownS ρ[i]? = false ∧ clr (ρ.set i .no) = true then pure (.cont (ρ.set i .no)) else M.bad
  | .ret w => pure (.ret w)
  | .exc _ _ => M.bad
def tryK (es : List Nat) (c : Nat → Bool) (i : Nat) (h : List Sl → M Fl) : Fl → M Fl
  | .exc e ρ => if es.contains e.c = true ∧ clr ρ = true then (if c e.c = true then h (ρ.set i (.xcp e)) >>= goneK i else pure (.exc e ρ)) else M.bad
  | x => pure x
def tryA (es : List Nat) (c : Nat → Bool) (i : Nat) (g h : List Sl → M Fl) (ρ : List Sl) : M Fl := g ρ >>= tryK es c i h
section
variable {X : Cx} {cl : Cl} {Wx : WX} {x n : Str} {cv : Value} {i : Nat} {body suite : List Stmt} {b0 : Stmt} {np pos pos' : Pos} {g h : List Sl → M Fl} {es : List Nat} {c : Nat → Bool}
theorem psi_tryA (hs : X.stack = X.env :: X.outer) (hf : X.env.frame = some X.env.locals) (hN : X.N.Nodup) (tk : Takes X Wx) (hc : Names X x cv) (hx : ∀ k, es.contains k = true → PySem.W.exmOne X.K (.ref (cl k)) cv = some (c k))
    (hb : ∀ (W : WX) (pn : List (Addr × Obj)) (xe : Value → Shared → Prop), Takes (X.tr pn xe) W → PassesOwn (model X.prog X.w) X.A X.env xe → PSsi cl W (X.tr pn xe) body g)
    (hsu : ∀ (a : Addr) (oe : Obj) (cls : Value) (d : Option Addr) (pn : List (Addr × Obj)), Zc cls d oe → (∃ vs, oe.data = .fields vs) → PSsi (cl.wx a cls d) WF (X.suite a ((a, oe) :: pn)) (b0 :: suite) h)
    (hi : X.N[i]? = some n := by rfl) (hln : X.env.kindOf n = some .local := by rfl) :
    PSi cl Wx X (.Try body [.ExceptHandler (some (.Name x np)) (some n) (b0 :: suite) pos'] [] [] pos) (tryA es c i g h) := by
  refine ⟨fun pins s σ H D I ⟨G, ρ, S, q⟩ => (ps_try_as (tb := fun W => tIS X.K cl W g) (ts := fun a cls d => tIS X.K (cl.wx a cls d) WF h) hs hf hN hi hln hc tk hb hsu).run pins s σ H D I ⟨G, ρ, S, (g ρ).mono (fun fl q => ?_) (fun _ z => z) q⟩⟩
  cases fl with
  | next ρ' => exact q
  | brk ρ' => exact q
  | cont ρ' => exact q
  | ret w => exact q
  | exc e ρ' =>
    intro oa cls d σ' H' S' k' xr
    obtain ⟨⟨he, hcl⟩, q⟩ := ite_run (q : (if es.contains e.c = true ∧ clr ρ' = true then (if c e.c = true then h (ρ'.set i (.xcp e)) >>= goneK i else pure (.exc e ρ')) else M.bad : M Fl).run _ _)
    have ec : cls = .ref (cl e.c) := xr.1
    refine ⟨c e.c, by rw [ec]; exact hx _ he, fun hy a na => ?_, fun hn => ?_⟩
    · rw [if_pos hy] at q
      obtain ⟨S2, k2⟩ := S'.setX (i := i) (a := a) xr hcl
      refine ⟨_, _, S2, (h _).mono (fun fl q => ?_) (fun _ z => z) q⟩
      have back : ∀ {ρ3 : List Sl} {oa3 σ3 H3}, ownS ρ3[i]? = false → clr (ρ3.set i .no) = true → SR X.K (cl.wx a cls d) (Gd.to ((G.to oa).to fun j => if j = i then none else (G.to oa).oa j) oa3) ρ3 σ3 H3 → SR X.K cl (G.to oa3) (ρ3.set i .no) (σ3.set i none) H3 := fun h1 h2 S3 => (S3.setNo i h1).recl rfl h2
      cases fl with
      | next ρ3 =>
        intro oa3 σ3 H3 S3 k3
        obtain ⟨⟨h1, h2⟩, q⟩ := ite_run (q : (if ownS ρ3[i]? = false ∧ clr (ρ3.set i .no) = true then pure (.next (ρ3.set i .no)) else M.bad : M Fl).run _ _)
        exact q oa3 _ H3 (back h1 h2 S3) (k'.trans (k2.trans k3))
      | brk ρ3 =>
        intro oa3 σ3 H3 S3 k3
        obtain ⟨⟨h1, h2⟩, q⟩ := ite_run (q : (if ownS ρ3[i]? = false ∧ clr (ρ3.set i .no) = true then pure (.brk (ρ3.set i .no)) else M.bad : M Fl).run _ _)
        exact q oa3 _ H3 (back h1 h2 S3) (k'.trans (k2.trans k3))
      | cont ρ3 =>
        intro oa3 σ3 H3 S3 k3
        obtain ⟨⟨h1, h2⟩, q⟩ := ite_run (q : (if ownS ρ3[i]? = false ∧ clr (ρ3.set i .no) = true then pure (.cont (ρ3.set i .no)) else M.bad : M Fl).run _ _)
        exact q oa3 _ H3 (back h1 h2 S3) (k'.trans (k2.trans k3))
      | ret w => exact fun v H3 r => q v H3 ⟨r.keep, r.deal, r.rep⟩
      | exc e' ρ3 => exact q.elim
    · rw [if_neg (by rw [hn]; decide)] at q
      exact q oa cls d σ' H' S' k' xr
def try1K (es : List Nat) (c : Nat → Bool) (h : List Sl → M Fl) : Fl → M Fl
  | .exc e ρ => if es.contains e.c = true then (if c e.c = true then h ρ >>= stopX else pure (.exc e ρ)) else M.bad
  | x => pure x
where stopX : Fl → M Fl
  | .exc _ _ => M.bad
  | x => pure x
def try1 (es : List Nat) (c : Nat → Bool) (g h : List Sl → M Fl) (ρ : List Sl) : M Fl := g ρ >>= try1K es c h
theorem psi_try1 (hs : X.stack = X.env :: X.outer) (hf : X.env.frame = some X.env.locals) (tk : Takes X Wx) (hc : Names X x cv) (hx : ∀ k, es.contains k = true → PySem.W.exmOne X.K (.ref (cl k)) cv = some (c k))
    (hb : ∀ (W : WX) (pn : List (Addr × Obj)) (xe : Value → Shared → Prop), Takes (X.tr pn xe) W → PassesOwn (model X.prog X.w) X.A X.env xe → PSsi cl W (X.tr pn xe) body g)
    (hsu : ∀ (a : Addr) (oe : Obj) (cls : Value) (d : Option Addr) (pn : List (Addr × Obj)), Zc cls d oe → (∃ vs, oe.data = .fields vs) → PSsi cl WF (X.suite a ((a, oe) :: pn)) (b0 :: suite) h) :
    PSi cl Wx X (.Try body [.ExceptHandler (some (.Name x np)) none (b0 :: suite) pos'] [] [] pos) (try1 es c g h) := by
  refine ⟨fun pins s σ H D I ⟨G, ρ, S, q⟩ => (ps_try_only (tb := fun W => tIS X.K cl W g) (ts := fun _ _ _ => tIS X.K cl WF h) hs hf hc tk hb hsu).run pins s σ H D I ⟨G, ρ, S, (g ρ).mono (fun fl q => ?_) (fun _ z => z) q⟩⟩
  cases fl with
  | next ρ' => exact q
  | brk ρ' => exact q
  | cont ρ' => exact q
  | ret w => exact q
  | exc e ρ' =>
    intro oa cls d σ' H' S' k' xr
    obtain ⟨he, q⟩ := ite_run (q : (if es.contains e.c = true then (if c e.c = true then h ρ' >>= try1K.stopX else pure (.exc e ρ')) else M.bad : M Fl).run _ _)
    have ec : cls = .ref (cl e.c) := xr.1
    refine ⟨c e.c, by rw [ec]; exact hx _ he, fun hy a na => ?_, fun hn => ?_⟩
    · rw [if_pos hy] at q
      refine ⟨_, _, S', (h _).mono (fun fl q => ?_) (fun _ z => z) q⟩
      cases fl with
      | next ρ3 => exact fun oa3 σ3 H3 S3 k3 => q oa3 σ3 H3 S3 (k'.trans k3)
      | brk ρ3 => exact fun oa3 σ3 H3 S3 k3 => q oa3 σ3 H3 S3 (k'.trans k3)
      | cont ρ3 => exact fun oa3 σ3 H3 S3 k3 => q oa3 σ3 H3 S3 (k'.trans k3)
      | ret w => exact fun v H3 r => q v H3 ⟨r.keep, r.deal, r.rep⟩
      | exc e' ρ3 => exact q.elim
    · rw [if_neg (by rw [hn]; decide)] at q
      exact q oa cls d σ' H' S' k' xr
def xfK (cs : List Nat) (f : Str) : Option Sl → M W
  | some (.xcp e) => if cs.contains e.c = true then M.ofO (look f e.ns e.l) else M.bad
  | _ => M.bad
def xfF (i : Nat) (cs : List Nat) (f : Str) (ρ : List Sl) : M W := xfK cs f ρ[i]?
theorem pi_xf {a : Addr} {oe : Obj} {cls : Value} {d : Option Addr} {pn : List (Addr × Obj)} {f : Str} {p1 p2 : Pos} (i : Nat) (cs : List Nat) (hcs : ∀ k, cs.contains k = true → XfC X.K (cl k) ∧ PySem.W.findIn X.K (.ref (cl k)) f = some none) (hz : Zc cls d oe) (hf : ∃ vs, oe.data = .fields vs)
    (hi : X.N[i]? = some n := by rfl) (hv : Vis X.env.scope n := by first | exact Or.inl rfl | exact Or.inr (Or.inl rfl) | exact Or.inr (Or.inr rfl)) (hd : (n == ("__debug__" : Str)) = false := by decide) (hcd : (n == ("__classdict__" : Str)) = false := by decide)
    (hb : attributeBase (.Name n p1) f X.env (eval (.Name n p1) X.env) = eval (.Name n p1) X.env := by rfl) :
    PEi (cl.wx a cls d) Wx (X.suite a ((a, oe) :: pn)) (.Attribute (.Name n p1) f p2) (xfF i cs f) := by
  refine ⟨fun pins s σ H Q I ⟨G, ρ, S, q⟩ => ?_⟩
  unfold xfF at q
  cases hs : ρ[i]? with
  | none => rw [hs] at q; exact q.elim
  | some sl =>
    rw [hs] at q
    cases sl with
    | xcp e =>
      obtain ⟨he, q⟩ := ite_run (q : (if cs.contains e.c = true then M.ofO (look f e.ns e.l) else M.bad : M W).run _ _)
      obtain ⟨w, hw, q⟩ := ofO_run q
      obtain ⟨a', c', d', h1, h2, h3⟩ := S.xcp i e hs
      cases h1
      obtain ⟨T, hno⟩ := hcs _ he
      refine (pe_xf (X := X) (C := cl e.c) T hno hz hf (pe_var (X := X.suite a ((a, oe) :: pn)) hi hv hd hcd) hb).run pins s σ H Q I ⟨_, h2, rfl, h3.1, ?_⟩
      rcases h3.2 with ⟨en, el, _⟩ | ⟨dd, fs, ed, eh, en, er, _⟩
      · rw [en, el] at hw; cases hw
      · obtain ⟨v, l1, l2⟩ := look_ok en er hw
        exact ⟨dd, fs, v, ed, eh, l1, q v H S .refl l2⟩
    | _ => exact q.elim
end
end Sh


namespace Sh
open PySem PySem.Spec PyProof.Rows L2
def reprOk (d : PyData) : Bool := d.showable && (decide (d.depth ≤ 60) && (!d.hasDict && decide (d.shown.length ≤ sizeLine)))
def reprW (w : W) : Option W := match toD w with
  | some d => if reprOk d = true then some (.str d.shown) else none
  | none => none
section
variable {X : Cx} {cl : Cl}
theorem call_reprD (hg : X.A.guards = some []) (hu : X.A.units + 64 < cLine) : CallR X (.builtin "repr") (fun xs H Q => ∃ x d, xs = [x] ∧ Dp X.K H x d ∧ reprOk d = true ∧ Q (.str d.shown) H) := by
  intro pins s σ H xs us Q I r h
  obtain ⟨x, d, rfl, hd, ok, q⟩ := h
  obtain ⟨u, rfl, ru⟩ := vals1 r
  obtain ⟨h1, ok⟩ := He.ba ok
  obtain ⟨h2, ok⟩ := He.ba ok
  obtain ⟨h3, h4⟩ := He.ba ok
  have h2 := of_decide_eq_true h2
  have h4 := of_decide_eq_true h4
  have h3 : d.hasDict = false := by simpa using h3
  obtain ⟨as, rd⟩ := Dp.reads I d x u hd ru
  cases u with
  | ref a =>
    refine repr_of_reads' rd h1 (fun z => by rw [h3] at z; cases z) hg (by omega) (fun b o e => e) (fun h' u tk k => ?_) h4
    exact ⟨.str d.shown, H, I.kept k, ⟨_, rfl⟩, q⟩
  | none => cases rd; exact PySem.P.repr_of_none ⟨.str _, H, I.tok _, ⟨_, rfl⟩, by simpa [PyData.shown] using q⟩
  | bool b => cases rd; exact PySem.P.repr_of_bool ⟨.str _, H, I.tok _, ⟨_, rfl⟩, by simpa [PyData.shown] using q⟩
  | int i t => cases rd; exact PySem.P.repr_of_int (by simpa [PyData.showable] using h1) ⟨.str _, H, I.tok _, ⟨_, rfl⟩, by simpa [PyData.shown] using q⟩
  | str y t => cases rd; exact PySem.P.repr_of_str ⟨.str _, H, I.tok _, ⟨_, rfl⟩, by simpa [PyData.shown] using q⟩ (by simpa [PyData.shown] using h4)
  | _ => cases rd
theorem cw_repr (hg : X.A.guards = some []) (hu : X.A.units + 64 < cLine) : CW1 cl X (.builtin "repr") reprW := by
  refine ⟨_, call_reprD hg hu, fun {G ρ σ H wx x w Q} S rx e q => ?_⟩
  unfold reprW at e
  cases hd : toD wx with
  | none => rw [hd] at e; cases e
  | some d =>
    rw [hd] at e
    by_cases ok : reprOk d = true
    · have e : (if reprOk d = true then some (W.str d.shown) else none) = some w := e
      rw [if_pos ok] at e
      cases e
      exact ⟨x, d, rfl, toD_okB rx hd, ok, q _ _ S .refl .str⟩
    · have e : (if reprOk d = true then some (W.str d.shown) else none) = some w := e
      rw [if_neg ok] at e
      cases e
end
theorem bt_repr : bootBuiltins "repr" = some (.builtin "repr") := by decide +kernel
def rsB (cN : List Str) (c : Nat) (C f : Str) (tl : List Value) (nw : String) (K : PySem.W.Frag) : Bool := xcB K (clK cN K c) tl nw && (He.eqO (PySem.W.findIn K (.ref (clK cN K c)) "__init__") (some (some (.ref (He.fAd K (C, some "__init__"))))) && (decide (PySem.W.typeIn K (.ref (He.fAd K (C, some "__init__"))) = some (.type "function")) && He.eqO (PySem.W.findIn K (.ref (clK cN K c)) f) (some none)))
structure RsC (K : PySem.W.Frag) (cl : Cl) (c : Nat) (fI : Addr) (f : Str) (tl : List Value) (nw : String) : Prop where
  t : XC K (cl c) tl nw
  iC : PySem.W.findIn K (.ref (cl c)) "__init__" = some (some (.ref fI))
  tI : PySem.W.typeIn K (.ref fI) = some (.type "function")
  no : PySem.W.findIn K (.ref (cl c)) f = some none
theorem rsB_ok {cN : List Str} {c : Nat} {C f : Str} {tl : List Value} {nw : String} {K : PySem.W.Frag} (h : rsB cN c C f tl nw K = true) : RsC K (clK cN K) c (He.fAd K (C, some "__init__")) f tl nw := by
  obtain ⟨h1, h⟩ := He.ba h
  obtain ⟨h2, h⟩ := He.ba h
  obtain ⟨h3, h4⟩ := He.ba h
  exact ⟨xcB_ok h1, He.eqO_ok h2, of_decide_eq_true h3, He.eqO_ok h4⟩
theorem psi_rs {X : Cx} {cl : Cl} {Wx : WX} {e : Expr} {fe : List Sl → M W} {p pos pos' : Pos} {fI : Addr} {ps : List Str} {x f : Str} {tl : List Value} {B nw ini : String} {c : Nat} (hc : X.calm = true) (tk : Takes X Wx) (eb : EBase tl B nw ini) (T : RsC X.K cl c fI f tl nw)
    (F1 : ∃ fd, FnOk X.prog X.w X.K X.mg X.base CX0 1 fI fd ps (spX X.K f) ∧ Binds X.K fd ps []) (hr : Room 2 X.A) (hm : X.mg x = some (.ref (cl c))) (he : PEi cl Wx X e fe) (hps : ps.length = 2 := by rfl) (hg : Gl X x := by rfl) (hdb : (x == ("__debug__" : Str)) = false := by decide) (hs : starEach [e] X.env = (false, eval e X.env) :: starEach [] X.env := by rfl) :
    PSi cl Wx X (.Raise (some (.Call (.Name x p) [e] [] pos)) none pos') (rsS c f fe) := by
  obtain ⟨fd, F1, hb⟩ := F1
  exact psi_raise hc tk eb T.t T.iC T.tI T.no F1 hr hb hps hg hm he hdb hs
def exmB (cN : List Str) (es : List Nat) (C : Str) (c : Nat → Bool) (K : PySem.W.Frag) : Bool := es.all fun k => decide (PySem.W.exmOne K (.ref (clK cN K k)) (.ref (He.ga K C)) = some (c k))
theorem exmB_ok {cN : List Str} {es : List Nat} {C : Str} {c : Nat → Bool} {K : PySem.W.Frag} (h : exmB cN es C c K = true) : ∀ k, es.contains k = true → PySem.W.exmOne K (.ref (clK cN K k)) (.ref (He.ga K C)) = some (c k) := fun k hk => of_decide_eq_true (List.all_eq_true.mp h k (by simpa using hk))
def xfsB (cN : List Str) (cs : List Nat) (f : Str) (K : PySem.W.Frag) : Bool := cs.all fun k => xfB K (clK cN K k) && He.eqO (PySem.W.findIn K (.ref (clK cN K k)) f) (some none)
theorem xfsB_ok {cN : List Str} {cs : List Nat} {f : Str} {K : PySem.W.Frag} (h : xfsB cN cs f K = true) : ∀ k, cs.contains k = true → XfC K (clK cN K k) ∧ PySem.W.findIn K (.ref (clK cN K k)) f = some none := fun k hk => by
  obtain ⟨h1, h2⟩ := He.ba (List.all_eq_true.mp h k (by simpa using hk))
  exact ⟨xfB_ok h1, He.eqO_ok h2⟩
theorem nmC {X : Cx} {x : Str} {c : Value} (hm : X.mg x = some c) (hg : Gl X x := by rfl) (hd : (x == ("__debug__" : Str)) = false := by decide) : Names X x c := ⟨hg, hd, .inl hm⟩
end Sh


namespace Sh
open PySem
def rsK (c : Nat) (f : Str) (ρ : List Sl) (w : W) : M Fl := pure (.exc ⟨c, [f], [w]⟩ ρ)
theorem e_rsK (c : Nat) (f : Str) (ρ : List Sl) (w : W) : rsK c f ρ w = pure (.exc ⟨c, [f], [w]⟩ ρ) := (rfl)
theorem e_rsS (c : Nat) (f : Str) (fe : List Sl → M W) (ρ : List Sl) : rsS c f fe ρ = (fe ρ).elim (rsK c f ρ) (exN ρ) := (rfl)
theorem e_tryA (es : List Nat) (c : Nat → Bool) (i : Nat) (g h : List Sl → M Fl) (ρ : List Sl) : tryA es c i g h ρ = (g ρ >>= tryK es c i h) := (rfl)
theorem e_tryK_exc (es : List Nat) (c : Nat → Bool) (i : Nat) (h : List Sl → M Fl) (e : Exn) (ρ : List Sl) : tryK es c i h (.exc e ρ) = if es.contains e.c = true ∧ clr ρ = true then (if c e.c = true then h (ρ.set i (.xcp e)) >>= goneK i else pure (.exc e ρ)) else M.bad := (rfl)
theorem e_tryK_next (es : List Nat) (c : Nat → Bool) (i : Nat) (h : List Sl → M Fl) (ρ : List Sl) : tryK es c i h (.next ρ) = pure (.next ρ) := (rfl)
theorem e_tryK_ret (es : List Nat) (c : Nat → Bool) (i : Nat) (h : List Sl → M Fl) (w : W) : tryK es c i h (.ret w) = pure (.ret w) := (rfl)
theorem e_goneK_next (i : Nat) (ρ : List Sl) : goneK i (.next ρ) = if ownS ρ[i]? = false ∧ clr (ρ.set i .no) = true then pure (.next (ρ.set i .no)) else M.bad := (rfl)
theorem e_goneK_ret (i : Nat) (w : W) : goneK i (.ret w) = pure (.ret w) := (rfl)
theorem e_try1 (es : List Nat) (c : Nat → Bool) (g h : List Sl → M Fl) (ρ : List Sl) : try1 es c g h ρ = (g ρ >>= try1K es c h) := (rfl)
theorem e_try1K_exc (es : List Nat) (c : Nat → Bool) (h : List Sl → M Fl) (e : Exn) (ρ : List Sl) : try1K es c h (.exc e ρ) = if es.contains e.c = true then (if c e.c = true then h ρ >>= try1K.stopX else pure (.exc e ρ)) else M.bad := (rfl)
theorem e_try1K_next (es : List Nat) (c : Nat → Bool) (h : List Sl → M Fl) (ρ : List Sl) : try1K es c h (.next ρ) = pure (.next ρ) := (rfl)
theorem e_try1K_ret (es : List Nat) (c : Nat → Bool) (h : List Sl → M Fl) (w : W) : try1K es c h (.ret w) = pure (.ret w) := (rfl)
theorem e_stopX_next (ρ : List Sl) : try1K.stopX (.next ρ) = pure (.next ρ) := (rfl)
theorem e_stopX_ret (w : W) : try1K.stopX (.ret w) = pure (.ret w) := (rfl)
theorem e_clr_nil : clr [] = true := (rfl)
theorem e_clr_v (w : W) (ρ : List Sl) : clr (.v w :: ρ) = clr ρ := by simp [clr, noXc]
theorem e_clr_no (ρ : List Sl) : clr (.no :: ρ) = clr ρ := by simp [clr, noXc]
theorem e_clr_acc (l : List W) (ρ : List Sl) : clr (.acc l :: ρ) = clr ρ := by simp [clr, noXc]
theorem e_own_xcp (e : Exn) : ownS (some (.xcp e)) = false := (rfl)
theorem e_xfF (i : Nat) (cs : List Nat) (f : Str) (ρ : List Sl) : xfF i cs f ρ = xfK cs f ρ[i]? := (rfl)
theorem e_xfK (cs : List Nat) (f : Str) (e : Exn) : xfK cs f (some (.xcp e)) = if cs.contains e.c = true then M.ofO (look f e.ns e.l) else M.bad := (rfl)
end Sh


namespace K04
open PySem PySem.Spec PyProof.Rows L2 Sh
def top (i : Nat) : Stmt := PySem.Challenge.pw_relaidrows_k04_forms_that_reach.main.body.getD i (.Pass ⟨0, 0, 0, 0⟩)
def cN : List Str := [("Ladder" : Str), ("Item" : Str), ("Gap" : Str), ("Block" : Str), ("Mark" : Str), ("Hop" : Str), ("Row" : Str), ("Draft" : Str), ("Span" : Str), ("RelayError" : Str), ("InvalidLadder" : Str), ("InvalidItem" : Str), ("InvalidRow" : Str), ("InvalidText" : Str), ("InvalidSizes" : Str), ("InvalidLayout" : Str), ("InvalidBound" : Str), ("InvalidRegion" : Str), ("InvalidClaim" : Str), ("InvalidCommand" : Str), ("Unsound" : Str), ("NotAllowed" : Str), ("Empty" : Str), ("Mismatch" : Str), ("Refused" : Str), ("NoForm" : Str), ("NoItem" : Str), ("NoHop" : Str), ("NoName" : Str), ("Region" : Str), ("Lines" : Str), ("Reader" : Str), ("Claim" : Str), ("NeverBeyond" : Str), ("NeverDrifts" : Str), ("NeverWider" : Str), ("NeverLonger" : Str), ("AlwaysAlike" : Str), ("SamePlace" : Str), ("Allowing" : Str), ("Desk" : Str)]
abbrev own : List Nat := [0]
def sub (a b : Nat) : Bool := [(0, 0)].contains (a, b)

abbrev s_law_draw : Stmt := top 13
abbrev s_law_deal : Stmt := top 12
abbrev s_law_ladder : Stmt := top 14
abbrev s_InvalidLadderD_initD : Stmt := (clsBody (top 3)).getD 0 (.Pass ⟨0, 0, 0, 0⟩)
abbrev s_is_integer : Stmt := top 6
abbrev s_is_form : Stmt := top 8
abbrev s_check_forms : Stmt := top 9
abbrev s_LadderD_initD : Stmt := (clsBody (top 10)).getD 0 (.Pass ⟨0, 0, 0, 0⟩)
abbrev s_law_ladder_of : Stmt := top 15
abbrev s_NoFormD_initD : Stmt := (clsBody (top 4)).getD 0 (.Pass ⟨0, 0, 0, 0⟩)
abbrev s_Ladder_need : Stmt := (clsBody (top 10)).getD 4 (.Pass ⟨0, 0, 0, 0⟩)
abbrev s_Ladder_reach : Stmt := (clsBody (top 10)).getD 6 (.Pass ⟨0, 0, 0, 0⟩)
abbrev s_Ladder_reaches : Stmt := (clsBody (top 10)).getD 7 (.Pass ⟨0, 0, 0, 0⟩)
abbrev s_Ladder_first : Stmt := (clsBody (top 10)).getD 8 (.Pass ⟨0, 0, 0, 0⟩)
abbrev s_law_told : Stmt := top 17
abbrev s_law_is_far : Stmt := top 16
abbrev s_law_is_right : Stmt := top 18
abbrev s_law : Stmt := top 19
def fa : List He.Fa := [.free "int", .free "abs", .free "range", .glo "_law_draw", .free "tuple", .glo "_law_ladder", .free "len", .glo "InvalidLadder", .free "isinstance", .free "bool", .glo "is_integer", .free "all", .glo "is_form", .free "zip", .free "any", .glo "check_forms", .cls "Ladder", .noat "Ladder" "forms", .noat "Ladder" "last", .noat "Ladder" "sizes", .mkr "Ladder", .glo "Ladder", .glo "_law_ladder_of", .glo "NoForm", .meth "Ladder" "need", .meth "Ladder" "reach", .meth "Ladder" "reaches", .meth "Ladder" "first", .glo "_law_told", .glo "_law_is_far", .free "repr", .glo "_law_is_right", .glo "_law_deal", .glo "law"]
def fn : List He.DefD := [⟨("_law_draw", none), "_law_draw", "_law_draw", defArgs s_law_draw, defBody s_law_draw, defScope s_law_draw, [], []⟩,
  ⟨("_law_deal", none), "_law_deal", "_law_deal", defArgs s_law_deal, defBody s_law_deal, defScope s_law_deal, [], []⟩,
  ⟨("_law_ladder", none), "_law_ladder", "_law_ladder", defArgs s_law_ladder, defBody s_law_ladder, defScope s_law_ladder, [], []⟩,
  ⟨("InvalidLadder", some "__init__"), "__init__", "InvalidLadder.__init__", defArgs s_InvalidLadderD_initD, defBody s_InvalidLadderD_initD, defScope s_InvalidLadderD_initD, [], []⟩,
  ⟨("is_integer", none), "is_integer", "is_integer", defArgs s_is_integer, defBody s_is_integer, defScope s_is_integer, [], []⟩,
  ⟨("is_form", none), "is_form", "is_form", defArgs s_is_form, defBody s_is_form, defScope s_is_form, [], []⟩,
  ⟨("check_forms", none), "check_forms", "check_forms", defArgs s_check_forms, defBody s_check_forms, defScope s_check_forms, [], []⟩,
  ⟨("Ladder", some "__init__"), "__init__", "Ladder.__init__", defArgs s_LadderD_initD, defBody s_LadderD_initD, defScope s_LadderD_initD, [], []⟩,
  ⟨("_law_ladder_of", none), "_law_ladder_of", "_law_ladder_of", defArgs s_law_ladder_of, defBody s_law_ladder_of, defScope s_law_ladder_of, [], []⟩,
  ⟨("NoForm", some "__init__"), "__init__", "NoForm.__init__", defArgs s_NoFormD_initD, defBody s_NoFormD_initD, defScope s_NoFormD_initD, [], []⟩,
  ⟨("Ladder", some "need"), "need", "Ladder.need", defArgs s_Ladder_need, defBody s_Ladder_need, defScope s_Ladder_need, [], []⟩,
  ⟨("Ladder", some "reach"), "reach", "Ladder.reach", defArgs s_Ladder_reach, defBody s_Ladder_reach, defScope s_Ladder_reach, [], []⟩,
  ⟨("Ladder", some "reaches"), "reaches", "Ladder.reaches", defArgs s_Ladder_reaches, defBody s_Ladder_reaches, defScope s_Ladder_reaches, [], []⟩,
  ⟨("Ladder", some "first"), "first", "Ladder.first", defArgs s_Ladder_first, defBody s_Ladder_first, defScope s_Ladder_first, [], [("least", .int 0)]⟩,
  ⟨("_law_told", none), "_law_told", "_law_told", defArgs s_law_told, defBody s_law_told, defScope s_law_told, [], []⟩,
  ⟨("_law_is_far", none), "_law_is_far", "_law_is_far", defArgs s_law_is_far, defBody s_law_is_far, defScope s_law_is_far, [], []⟩,
  ⟨("_law_is_right", none), "_law_is_right", "_law_is_right", defArgs s_law_is_right, defBody s_law_is_right, defScope s_law_is_right, [], []⟩,
  ⟨("law", none), "law", "law", defArgs s_law, defBody s_law, defScope s_law, [], []⟩]
def ex (K : PySem.W.Frag) : Bool := isiB cN own sub K && (rsB cN 10 "InvalidLadder" "word" [.type "ValueError", .type "Exception", .type "BaseException", .type "object"] "ValueError.__new__" K && (exmB cN [9, 10, 25] "NoForm" (fun k => ([25] : List Nat).contains k) K && (rsB cN 25 "NoForm" "form" [.type "IndexError", .type "LookupError", .type "Exception", .type "BaseException", .type "object"] "IndexError.__new__" K && (xfsB cN [25] "form" K && true))))
abbrev TX (K : PySem.W.Frag) (mg : Str → Option Value) : Prop := Tx fa fn ex K mg
section
variable {P : Program} {w : World} {K : PySem.W.Frag} {mg : Str → Option Value} {base : Heap}
theorem exI (T : TX K mg) : isiB cN own sub K = true := (He.ba T.x).1
theorem ex0 (T : TX K mg) : rsB cN 10 "InvalidLadder" "word" [.type "ValueError", .type "Exception", .type "BaseException", .type "object"] "ValueError.__new__" K = true := (He.ba (He.ba T.x).2).1
theorem ex1 (T : TX K mg) : exmB cN [9, 10, 25] "NoForm" (fun k => ([25] : List Nat).contains k) K = true := (He.ba (He.ba (He.ba T.x).2).2).1
theorem ex2 (T : TX K mg) : rsB cN 25 "NoForm" "form" [.type "IndexError", .type "LookupError", .type "Exception", .type "BaseException", .type "object"] "IndexError.__new__" K = true := (He.ba (He.ba (He.ba (He.ba T.x).2).2).2).1
theorem ex3 (T : TX K mg) : xfsB cN [25] "form" K = true := (He.ba (He.ba (He.ba (He.ba (He.ba T.x).2).2).2).2).1
theorem isi (T : TX K mg) : Isi K (clK cN K) own sub := isiB_ok (exI T) (by
  intro c hc
  simp only [own, List.mem_cons, List.not_mem_nil, or_false] at hc
  subst hc
  · exact (T.cls 16))
theorem kp_law_draw (T : TX K mg) : PySem.W.keepIn K (.ref (He.ga K "_law_draw")) = true := by
  obtain ⟨fd, F⟩ := T.def_ 0
  exact F.kp
theorem kp_law_deal (T : TX K mg) : PySem.W.keepIn K (.ref (He.ga K "_law_deal")) = true := by
  obtain ⟨fd, F⟩ := T.def_ 1
  exact F.kp
theorem kp_law_ladder (T : TX K mg) : PySem.W.keepIn K (.ref (He.ga K "_law_ladder")) = true := by
  obtain ⟨fd, F⟩ := T.def_ 2
  exact F.kp
theorem kp_is_integer (T : TX K mg) : PySem.W.keepIn K (.ref (He.ga K "is_integer")) = true := by
  obtain ⟨fd, F⟩ := T.def_ 4
  exact F.kp
theorem kp_is_form (T : TX K mg) : PySem.W.keepIn K (.ref (He.ga K "is_form")) = true := by
  obtain ⟨fd, F⟩ := T.def_ 5
  exact F.kp
theorem kp_check_forms (T : TX K mg) : PySem.W.keepIn K (.ref (He.ga K "check_forms")) = true := by
  obtain ⟨fd, F⟩ := T.def_ 6
  exact F.kp
theorem kp_law_ladder_of (T : TX K mg) : PySem.W.keepIn K (.ref (He.ga K "_law_ladder_of")) = true := by
  obtain ⟨fd, F⟩ := T.def_ 8
  exact F.kp
theorem kp_law_told (T : TX K mg) : PySem.W.keepIn K (.ref (He.ga K "_law_told")) = true := by
  obtain ⟨fd, F⟩ := T.def_ 14
  exact F.kp
theorem kp_law_is_far (T : TX K mg) : PySem.W.keepIn K (.ref (He.ga K "_law_is_far")) = true := by
  obtain ⟨fd, F⟩ := T.def_ 15
  exact F.kp
theorem kp_law_is_right (T : TX K mg) : PySem.W.keepIn K (.ref (He.ga K "_law_is_right")) = true := by
  obtain ⟨fd, F⟩ := T.def_ 16
  exact F.kp
theorem kp_law (T : TX K mg) : PySem.W.keepIn K (.ref (He.ga K "law")) = true := by
  obtain ⟨fd, F⟩ := T.def_ 17
  exact F.kp
theorem scDraw : FnScope ["_law_deal_here", "_law_many", "_law_rest"] ["_law_deal_here", "_law_many"] (defScope s_law_draw) := ⟨rfl, rfl, rfl, by decide +kernel, rfl, by decide +kernel, by decide +kernel⟩
theorem rest_draw {f : Addr} {cdv : Value} {A : Around} {outer : List Env} {s : Shared} {H0 : Hp} {E : XK} (T : TD mg) (hr : Room 0 (A.deeper (envOfC "_law_draw" (defScope s_law_draw) s.heap.objs.size f cdv))) :
    ∃ t, PSs (cxOf CX0 P w K mg base ["_law_deal_here", "_law_many", "_law_rest"] "_law_draw" (defScope s_law_draw) f cdv A outer s H0 E).nox [bodyAt s_law_draw 1, bodyAt s_law_draw 2, bodyAt s_law_draw 3] t ∧
      ∀ (D : Ends) (d g : Addr) (gs : List Int) (m n : Int) (v2 : Option V) (H : Hp), 0 < n → n < 2 ^ 64 → Dl H d g gs m → (∀ (r : Int) (gs' : List Int) (m' : Int) (H' : Hp), 0 ≤ r → r < n → Dl H' d g gs' m' → Kd d g H H' → D.rt (.int r) H') → t D [some (.ref d), some (.int n), v2] H := by
  refine ⟨_, pss_cons (ps_if (pt_cmpR (op_neD hr.units) (pe_ix ix_list (pv 0) pe_int (fun _ _ => rfl)) (pe_lst pa_nil) (nomark _))
        (pss_cons (ps_set (i := 2) scDraw.nd rfl (Or.inl rfl) (pe_bm0 PySem.F.plainAttrs_list PySem.F.slot_list_pop PySem.F.type_list_pop mt_pop (pe_ix ix_list (pv 0) pe_int (fun _ _ => rfl))))
        (pss_cons (ps_expr (pe_bm PySem.F.plainAttrs_list PySem.F.slot_list_append PySem.F.type_list_append mt_append (pe_ix ix_list (pv 0) pe_int (fun _ _ => rfl)) (pa_cons (pe_op op_fdivW (pv 2) (pv 1)) pa_nil)))
        (pss_one (ps_ret (pe_op op_modN (pe_callTy call_int1 (by rfl) T.int (by decide +kernel) (pa_cons (pv 2) pa_nil)) (pv 1)))))) pss_nil)
      (pss_cons (ps_asg (pe_op op_modN (pe_callTy call_int1 (by rfl) T.int (by decide +kernel) (pa_cons (pe_op op_add (pe_op op_mul (pe_ix ix_list (pv 0) pe_int (fun _ _ => rfl)) pe_int) pe_int) pa_nil)) pe_int) (pg_sub (pv 0) pe_int set_list))
      (pss_one (ps_ret (pe_op op_modN (pe_callTy call_int1 (by rfl) T.int (by decide +kernel) (pa_cons (pe_op op_fdivW (pe_ix ix_list (pv 0) pe_int (fun _ _ => rfl)) pe_int) pa_nil)) (pv 1))))), ?_⟩
  intro D d g gs m n v2 H n0 n1 D1 k
  have i0 : ∀ (m : Int), atI [V.ref g, V.int m] 0 = some (V.ref g) := fun _ => rfl
  have i1 : ∀ (m : Int), atI [V.ref g, V.int m] 1 = some (V.int m) := fun _ => rfl
  have hmod : ∀ z : Int, 0 ≤ z.fmod n ∧ z.fmod n < n := fun z => by
    rw [Int.fmod_eq_emod_of_nonneg _ (by omega)]
    exact ⟨Int.emod_nonneg _ (by omega), Int.emod_lt_of_pos _ n0⟩
  refine ⟨_, rfl, d, _, _, _, rfl, rfl, SqL.of D1.hd, i0 m, (by show 0 ≤ sizeLine; exact Nat.zero_le _), fun p hp => ?_⟩
  have D3 := D1.new (o := .lst []) hp
  have kd3 : Kd d g H (upd H p (.lst [])) := .new hp
  refine ⟨_, _, .lst (SqL.of D3.hg) (dp_ints gs), .lst (SqL.of upd_same) .nil, shaped_ints gs, shaped_ints [], _, rfl, ?_⟩
  rw [eqv_nil]
  rcases List.eq_nil_or_concat gs with rfl | ⟨ys, y, rfl⟩
  · refine iteF ?_
    have e1 : Int.fmod (m * 48271 + 11) 2147483647 = (m * 48271 + 11) % 2147483647 := Int.fmod_eq_emod_of_nonneg _ (by decide)
    have b0 : 0 ≤ (m * 48271 + 11) % 2147483647 := Int.emod_nonneg _ (by decide)
    have b1 : (m * 48271 + 11) % 2147483647 < 2147483647 := Int.emod_lt_of_pos _ (by decide)
    refine ⟨_, rfl, d, _, _, _, rfl, rfl, SqL.of D3.hd, i1 m, _, _, rfl, rfl, .inr ⟨by decide, by decide⟩, _, _, rfl, rfl, .inl ⟨_, rfl, _, _, rfl, rfl, (by show (2147483647 : Int) ≠ 0; decide), ?_⟩⟩
    refine ⟨_, rfl, d, _, _, 1, rfl, rfl, D3.hd, rfl, ?_⟩
    refine ⟨_, rfl, d, _, _, _, rfl, rfl, SqL.of upd_same, rfl, _, _, rfl, rfl, ⟨by decide, by decide⟩, .inl ⟨_, rfl, _, rfl, _, _, rfl, rfl, by omega, ?_⟩⟩
    refine k _ [] ((m * 48271 + 11) % 2147483647) _ (hmod _).1 (hmod _).2 ⟨D3.ne, ?_, ?_, D3.pos, D3.len, b0, b1⟩ (kd3.trans .atD)
    · rw [upd_same, ← e1]
      rfl
    · rw [upd_ne D3.ne]
      exact D3.hg
  · refine iteT' (by simp) ?_
    have hy := D3.pos y (by simp)
    have hlen := D3.len
    have e2 : ((ys.concat y).map V.int) = ys.map V.int ++ [V.int y] := by simp [List.concat_eq_append]
    have hg3 : (upd H p (.lst [])) g = some (.lst (ys.map V.int ++ [V.int y])) := by rw [D3.hg, e2]
    refine ⟨_, rfl, d, _, _, _, rfl, rfl, SqL.of D3.hd, i0 m, .inl ⟨rfl, _, SqL.of hg3⟩, g, _, V.int y, rfl, rfl, hg3, by simp, ?_⟩
    refine ⟨_, rfl, d, _, _, _, rfl, rfl, SqL.of (by rw [upd_ne D3.ne.symm]; exact D3.hd), i0 m, .inl ⟨rfl, _, SqL.of upd_same⟩, _, rfl, _, rfl, _, _, rfl, rfl, ⟨n0, ?_⟩, g, _, _, rfl, rfl, upd_same, ?_, ?_⟩
    · have : n.natAbs < 2 ^ 64 := by omega
      have h2 : n.natAbs.log2 < 64 := (Nat.log2_lt (by omega)).mpr this
      omega
    · have hl : ys.length ≤ 64 := by simp at hlen; omega
      rw [List.dropLast_concat, List.length_map, sizeLine_eq]
      omega
    · refine ⟨_, rfl, .inl ⟨_, rfl, _, rfl, _, _, rfl, rfl, (by show n ≠ 0; omega), ?_⟩⟩
      have q0 : 0 ≤ y / n := Int.ediv_nonneg hy.1 (by omega)
      have q1 : y / n ≤ y := Int.ediv_le_self _ hy.1
      refine k _ (ys ++ [y / n]) m _ (hmod _).1 (hmod _).2 ⟨D3.ne, ?_, ?_, fun x hx => ?_, ?_, D3.m0, D3.m1⟩ ((kd3.trans .at_).trans .at_)
      · rw [upd_ne D3.ne.symm, upd_ne D3.ne.symm]
        exact D3.hd
      · rw [upd_same, List.dropLast_concat]
        simp
      · rcases List.mem_append.mp hx with h | h
        · exact D3.pos x (by simp [h])
        · rcases List.mem_singleton.mp h with rfl
          exact ⟨q0, Int.lt_of_le_of_lt q1 hy.2⟩
      · simpa using hlen
theorem ok_draw {f : Addr} {fd : FuncData} (F : FunD K "_law_draw" "_law_draw" (defArgs s_law_draw) (defBody s_law_draw) (defScope s_law_draw) [] [] f fd) (T : TD mg) : FnOk P w K mg base CX0 1 f fd ["_law_deal_here", "_law_many"] spDraw := by
  refine F.ok scDraw (fun vs H Q E h => ?_) (fun cdv A outer s H vs Q E hr h => nox_ex ?_)
  · obtain ⟨d, g, gs, m, n, rfl, _⟩ := h
    rfl
  · obtain ⟨d, g, gs, m, n, rfl, n0, n1, D, k⟩ := h
    obtain ⟨t2, p2, r2⟩ := rest_draw (P := P) (w := w) (K := K) (base := base) (f := f) (cdv := cdv) (A := A) (outer := outer) (s := s) (H0 := H) (E := E) T hr
    refine ⟨_, pss_cons (ps_while PassesOwn.never (PW.pt (pw_and (pt_cmpR (op_neD hr.units) (pe_ix ix_list (pv 0) pe_int (fun _ _ => rfl)) (pe_lst pa_nil) (nomark _))
        (pw_and1 (pt_cmpR op_eq (pe_ix ix_list (pe_ix ix_list (pv 0) pe_int (fun _ _ => rfl)) (pe_un un_neg pe_int) (fun _ _ => rfl)) pe_int (nomark _)))))
        (pss_one (ps_expr (pe_bm0 PySem.F.plainAttrs_list PySem.F.slot_list_pop PySem.F.type_list_pop mt_pop (pe_ix ix_list (pv 0) pe_int (fun _ _ => rfl)))))) p2, ?_⟩
    have i0 : ∀ (m : Int), atI [V.ref g, V.int m] 0 = some (V.ref g) := fun _ => rfl
    refine ⟨fun c σ H' => ∃ gs' v2, c = gs'.length ∧ σ = [some (.ref d), some (.int n), v2] ∧ Dl H' d g gs' m ∧ Kd d g H H', ⟨_, gs, none, rfl, rfl, D, fun _ _ e _ _ => e⟩, ?_⟩
    rintro c σ H' ⟨gs', v2, rfl, rfl, D', kd⟩
    refine ⟨_, rfl, d, _, _, _, rfl, rfl, SqL.of D'.hd, i0 m, (by show 0 ≤ sizeLine; exact Nat.zero_le _), fun p hp => ?_⟩
    have D1 := D'.new (o := .lst []) hp
    have kd1 : Kd d g H (upd H' p (.lst [])) := kd.trans (.new hp)
    refine ⟨_, _, .lst (SqL.of D1.hg) (dp_ints gs'), .lst (SqL.of upd_same) .nil, shaped_ints gs', shaped_ints [], _, rfl, ?_⟩
    rw [eqv_nil]
    rcases List.eq_nil_or_concat gs' with rfl | ⟨ys, y, rfl⟩
    · refine iteF ?_
      refine iteF ?_
      exact r2 _ d g [] m n v2 _ n0 n1 D1 fun r gs2 m2 H2 a b D2 kd2 => k r gs2 m2 H2 a b D2 (kd1.trans kd2)
    · refine iteT' (by simp) ?_
      have e2 : ((ys.concat y).map V.int) = ys.map V.int ++ [V.int y] := by simp [List.concat_eq_append]
      have hg3 : (upd H' p (.lst [])) g = some (.lst (ys.map V.int ++ [V.int y])) := by rw [D1.hg, e2]
      refine ⟨_, rfl, d, _, _, _, rfl, rfl, SqL.of D1.hd, i0 m, _, rfl, g, _, _, V.int y, rfl, rfl, SqL.of hg3, atI_last _ _, rfl, _, rfl, ?_⟩
      by_cases hz : y = 0
      · refine iteT' (by rw [hz]; rfl) ?_
        refine ⟨fun σ' H2 => ∃ gs2 v2, gs2.length < (ys.concat y).length ∧ σ' = [some (.ref d), some (.int n), v2] ∧ Dl H2 d g gs2 m ∧ Kd d g H H2, fun σ' H2 ⟨gs2, v3, h1, h2, h3, h4⟩ => ⟨_, h1, gs2, v3, rfl, h2, h3, h4⟩, ?_⟩
        refine ⟨_, rfl, d, _, _, _, rfl, rfl, SqL.of D1.hd, i0 m, .inl ⟨rfl, _, SqL.of hg3⟩, g, _, V.int y, rfl, rfl, hg3, by simp, ?_⟩
        refine ⟨ys, v2, by simp, rfl, ⟨D1.ne, ?_, ?_, fun x hx => D1.pos x (by simp [hx]), ?_, D1.m0, D1.m1⟩, kd1.trans .at_⟩
        · rw [upd_ne D1.ne.symm]; exact D1.hd
        · rw [upd_same, List.dropLast_concat]
        · have := D1.len; simp at this; omega
      · refine iteF' (decide_eq_false (fun e => hz (V.int.inj e))) ?_
        exact r2 _ d g _ m n v2 _ n0 n1 D1 fun r gs2 m2 H2 a b D2 kd2 => k r gs2 m2 H2 a b D2 (kd1.trans kd2)
theorem ok_law_draw (T : TX K mg) : FnA P w K mg base (clK cN K) 1 (He.fAd K ("_law_draw", none)) [] drawF := by
  obtain ⟨fd, F⟩ := T.def_ 0
  exact fnA_draw (ok_draw F ⟨T.free 0⟩) (F.bindsN fun _ _ _ _ _ _ us hl => match us, hl with | [_, _], _ => rfl) rfl
def n_law_deal : List Str := ["_law_script", "_law_base", "_law_numbers", "_law_mixed", "_law_cell"]
theorem sc_law_deal : FnScope n_law_deal ["_law_script", "_law_base"] (defScope s_law_deal) := ⟨rfl, rfl, rfl, by decide +kernel, rfl, by decide +kernel, by decide +kernel⟩
def g_law_deal_l1 (ρ : List Sl) : M Fl := (asg (bin modI (un1 intW (bin addW (bin mulW (gb 3) (cw (.int 16807))) (bin modI (un1 intW (gb 4)) (cw (.int 2147483629))))) (cw (.int 2147483647))) (toN 3)) ρ
def g_law_deal (ρ : List Sl) : M Fl := (sq (asg (lstF (compE [4] (itS (lstF (slL (gb 0) (pSome (gv 1)) (pSome (cw (.int 60)))))) (toN 4) (yesT) (un1 absW (gb 4)))) (toN 2)) (sq (asg (bin addW (cw (.int 7368787)) (bin mulW (cw (.int 331)) (gb 1))) (toN 3)) (sq (forS (itS (gv 2)) (toN 4) g_law_deal_l1) (rtS (lstF (dLst (aCons (lstF (revL (lstF (compE [4] (itS (gv 2)) (toN 4) (tst (bin geI (gb 4) (bin powI (cw (.int 10)) (cw (.int 18))))) (gv 4))))) (aCons (gv 3) (aNil))))))))) ρ
theorem b_law_deal {f : Addr} {cdv : Value} {A : Around} {outer : List Env} {s : Shared} {H : Hp} {E : XK} (T : TX K mg) (hr : Room 0 (A.deeper (envOfC "_law_deal" (defScope s_law_deal) s.heap.objs.size f cdv))) (hg : A.guards = some []) :
    PSsi (clK cN K) (fun c d _ H => E c d H) (cxOf (CX P w) P w K mg base n_law_deal "_law_deal" (defScope s_law_deal) f cdv A outer s H E) (defBody s_law_deal) g_law_deal :=
  have hN := sc_law_deal.nd
  (pssi_cons (psi_setLc 2 (own := [("_law_cell", 4)]) rfl hN (pii_seq (PEf.toI (pf_sl (pb_v 0) (poi_some (pi_v 1)) (poi_some pi_int)))) (blkOk_by (by kernel_rfl)) (by decide) (fun _ _ _ _ _ => (pgi_name 4 hN)) (fun _ _ _ _ _ => ptsi_nil) (fun _ _ _ _ _ => (pi_callB1 cw_abs (by rfl) (T.free 1) bt_abs (pb_v 4)))) (pssi_cons (psi_asg (pi_op ow_add (PEi.toB pi_int) (PEi.toB (pi_op ow_mul (PEi.toB pi_int) (pb_v 1)))) (pgi_name 3 hN)) (pssi_cons (psi_for (g := g_law_deal_l1) poC rfl (pii_seq (pi_v 2)) (pgi_name 4 hN) (pssi_one (psi_asg (pi_op ow_mod (PEi.toB (pi_callT1 cw_int (by rfl) (T.free 0) bt_int (PEi.toB (pi_op ow_add (PEi.toB (pi_op ow_mul (pb_v 3) (PEi.toB pi_int))) (PEi.toB (pi_op ow_mod (PEi.toB (pi_callT1 cw_int (by rfl) (T.free 0) bt_int (pb_v 4))) (PEi.toB pi_int))))))) (PEi.toB pi_int)) (pgi_name 3 hN)))) (pssi_one (psi_ret (PEi.toB (PEf.toI (pf_lst (pai_cons (PEf.toI (pf_rev (PEi.toB (PEf.toI (pf_lc (own := [("_law_cell", 4)]) rfl hN (pii_seq (pi_v 2)) (blkOk_by (by kernel_rfl)) (by decide) (fun _ _ _ _ _ => (pgi_name 4 hN)) (fun _ _ _ _ _ => (ptsi_one (pt_cmpi ow_ge (pb_v 4) (PEi.toB (pi_op ow_pow (PEi.toB pi_int) (PEi.toB pi_int))) (nomark _)))) (fun _ _ _ _ _ => (pi_v 4))))))) (pai_cons (pi_v 3) pai_nil))))))))))
def f_law_deal (ws kws : List W) : M W := bindW 2 [] [0, 1] (bodyM 5 g_law_deal) ws kws
theorem ok_law_deal (T : TX K mg) : FnA P w K mg base (clK cN K) 1 (He.fAd K ("_law_deal", none)) [] f_law_deal := by
  obtain ⟨fd, F⟩ := T.def_ 1
  exact fnA_D (k := 0) F sc_law_deal (shape_n F 2 [] [0, 1] (fun _ _ _ _ _ _ us zs h1 h2 => match us, h1, zs, h2 with | [_, _], _, [], _ => rfl)) (fun _ _ _ _ _ _ hr hg => b_law_deal T hr hg)
def n_law_ladder : List Str := ["_law_deal_here", "_law_wide", "_law_size", "_law_back", "_law_ahead", "_law_forms", "_law_turn"]
theorem sc_law_ladder : FnScope n_law_ladder ["_law_deal_here", "_law_wide"] (defScope s_law_ladder) := ⟨rfl, rfl, rfl, by decide +kernel, rfl, by decide +kernel, by decide +kernel⟩
def g_law_ladder_l1 (ρ : List Sl) : M Fl := (sq (asg (bin addW (bin addW (gb 2) (cw (.int 1))) (callF drawF (aCons (gv 0) (aCons (cw (.int 4)) (aNil))) aNil)) (toN 2)) (sq (asgX [3, 4] (xV (bin addW (gb 3) (callF drawF (aCons (gv 0) (aCons (gv 1) (aNil))) aNil)) (xV (bin addW (gb 4) (callF drawF (aCons (gv 0) (aCons (gv 1) (aNil))) aNil)) (xNil)))) (appS 5 (dTup (aCons (gv 2) (aCons (gv 3) (aCons (gv 4) (aNil)))))))) ρ
def g_law_ladder (ρ : List Sl) : M Fl := (sq (asgX [2, 3, 4, 5] (xV (cw (.int 0)) (xV (cw (.int 0)) (xV (cw (.int 0)) (xF (dLst (aNil)) (xNil)))))) (sq (forS (rng1 (callF drawF (aCons (gv 0) (aCons (cw (.int 3)) (aNil))) aNil)) (toN 6) g_law_ladder_l1) (frzF 5 (rtS (dTup (aCons (un1 tupleW (gb 5)) (aCons (bin addW (bin addW (gb 2) (cw (.int 1))) (callF drawF (aCons (gv 0) (aCons (cw (.int 4)) (aNil))) aNil)) (aNil)))))))) ρ
theorem b_law_ladder {f : Addr} {cdv : Value} {A : Around} {outer : List Env} {s : Shared} {H : Hp} {E : XK} (T : TX K mg) (hr : Room 1 (A.deeper (envOfC "_law_ladder" (defScope s_law_ladder) s.heap.objs.size f cdv))) (hg : A.guards = some []) :
    PSsi (clK cN K) (fun c d _ H => E c d H) (cxOf (CX P w) P w K mg base n_law_ladder "_law_ladder" (defScope s_law_ladder) f cdv A outer s H E) (defBody s_law_ladder) g_law_ladder :=
  have hN := sc_law_ladder.nd
  (pssi_cons (psi_tupN rfl (pns_cons 2 hN (pns_cons 3 hN (pns_cons 4 hN (pns_cons 5 hN pns_nil)))) (pax_v pi_int (pax_v pi_int (pax_v pi_int (pax_f (pf_lst pai_nil) pax_nil))))) (pssi_cons (psi_for (g := g_law_ladder_l1) poC rfl (pii_range1 (by rfl) (T.free 2) (pi_call (ok_law_draw T) (hr.mono (by decide)) hg tkC (T.glo 3) (kp_law_draw T) (pai_cons (pi_v 0) (pai_cons pi_int pai_nil)))) (pgi_name 6 hN) (pssi_cons (psi_asg (pi_op ow_add (PEi.toB (pi_op ow_add (pb_v 2) (PEi.toB pi_int))) (PEi.toB (pi_call (ok_law_draw T) (hr.mono (by decide)) hg tkC (T.glo 3) (kp_law_draw T) (pai_cons (pi_v 0) (pai_cons pi_int pai_nil))))) (pgi_name 2 hN)) (pssi_cons (psi_par2 3 4 rfl hN (pax_v (pi_op ow_add (pb_v 3) (PEi.toB (pi_call (ok_law_draw T) (hr.mono (by decide)) hg tkC (T.glo 3) (kp_law_draw T) (pai_cons (pi_v 0) (pai_cons (pi_v 1) pai_nil))))) (pax_v (pi_op ow_add (pb_v 4) (PEi.toB (pi_call (ok_law_draw T) (hr.mono (by decide)) hg tkC (T.glo 3) (kp_law_draw T) (pai_cons (pi_v 0) (pai_cons (pi_v 1) pai_nil))))) pax_nil))) (pssi_one (psi_app 5 (pi_tup (pai_cons (pi_v 2) (pai_cons (pi_v 3) (pai_cons (pi_v 4) pai_nil))))))))) (pssi_frz 5 (pssi_one (psi_ret (PEi.toB (pi_tup (pai_cons (pi_callT1 cw_tuple (by rfl) (T.free 4) bt_tuple (pb_v 5)) (pai_cons (pi_op ow_add (PEi.toB (pi_op ow_add (pb_v 2) (PEi.toB pi_int))) (PEi.toB (pi_call (ok_law_draw T) (hr.mono (by decide)) hg tkC (T.glo 3) (kp_law_draw T) (pai_cons (pi_v 0) (pai_cons pi_int pai_nil))))) pai_nil)))))))))
def f_law_ladder (ws kws : List W) : M W := bindW 2 [] [0, 1] (bodyM 7 g_law_ladder) ws kws
theorem ok_law_ladder (T : TX K mg) : FnA P w K mg base (clK cN K) 2 (He.fAd K ("_law_ladder", none)) [] f_law_ladder := by
  obtain ⟨fd, F⟩ := T.def_ 2
  exact fnA_D (k := 1) F sc_law_ladder (shape_n F 2 [] [0, 1] (fun _ _ _ _ _ _ us zs h1 h2 => match us, h1, zs, h2 with | [_, _], _, [], _ => rfl)) (fun _ _ _ _ _ _ hr hg => b_law_ladder T hr hg)
theorem ri_InvalidLadder (T : TX K mg) : ∃ fd, FnOk P w K mg base CX0 1 (He.fAd K ("InvalidLadder", some "__init__")) fd ["self", "word"] (spX K "word") ∧ Binds K fd ["self", "word"] [] := by
  obtain ⟨fd, F⟩ := T.def_ 3
  exact ⟨fd, init_ok F ⟨rfl, rfl, rfl, by decide +kernel, rfl, by decide +kernel, by decide +kernel⟩, F.bindsN fun _ _ _ _ _ _ us hl => match us, hl with | [_, _], _ => rfl⟩
def n_is_integer : List Str := ["thing"]
theorem sc_is_integer : FnScope n_is_integer ["thing"] (defScope s_is_integer) := ⟨rfl, rfl, rfl, by decide +kernel, rfl, by decide +kernel, by decide +kernel⟩
def g_is_integer (ρ : List Sl) : M Fl := (rtS (andV (bin (isiW own sub) (gb 0) (cw (.ty "int"))) (notV (bin (isiW own sub) (gb 0) (cw (.ty "bool")))))) ρ
theorem b_is_integer {f : Addr} {cdv : Value} {A : Around} {outer : List Env} {s : Shared} {H : Hp} {E : XK} (T : TX K mg) (hr : Room 0 (A.deeper (envOfC "is_integer" (defScope s_is_integer) s.heap.objs.size f cdv))) (hg : A.guards = some []) :
    PSsi (clK cN K) (fun c d _ H => E c d H) (cxOf (CX P w) P w K mg base n_is_integer "is_integer" (defScope s_is_integer) f cdv A outer s H E) (defBody s_is_integer) g_is_integer :=
  have hN := sc_is_integer.nd
  (pssi_one (psi_ret (PEi.toB (pi_and (pi_callB2 (cw_isi (isi T)) (by rfl) (T.free 8) bt_isinstance (pb_v 0) (PEi.toB (pi_tyN (T.free 0) bt_int))) (pi_one (pi_not (pi_callB2 (cw_isi (isi T)) (by rfl) (T.free 8) bt_isinstance (pb_v 0) (PEi.toB (pi_tyN (T.free 9) bt_bool)))))))))
def f_is_integer (ws kws : List W) : M W := bindW 1 [] [0] (bodyM 1 g_is_integer) ws kws
theorem ok_is_integer (T : TX K mg) : FnA P w K mg base (clK cN K) 1 (He.fAd K ("is_integer", none)) [] f_is_integer := by
  obtain ⟨fd, F⟩ := T.def_ 4
  exact fnA_D (k := 0) F sc_is_integer (shape_n F 1 [] [0] (fun _ _ _ _ _ _ us zs h1 h2 => match us, h1, zs, h2 with | [_], _, [], _ => rfl)) (fun _ _ _ _ _ _ hr hg => b_is_integer T hr hg)
def n_is_form : List Str := ["thing", "part"]
theorem sc_is_form : FnScope n_is_form ["thing"] (defScope s_is_form) := ⟨rfl, rfl, rfl, by decide +kernel, rfl, by decide +kernel, by decide +kernel⟩
def g_is_form (ρ : List Sl) : M Fl := (sq (ifS (orT (notT (tst (bin (isiW own sub) (gb 0) (cw (.ty "tuple"))))) (orT (tst (bin (eqD true) (un1 lenW (gb 0)) (cw (.int 3)))) (notT (tst (un1 allW (lstF (compE [1] (itS (gv 0)) (toN 1) (yesT) (callF f_is_integer (aCons (gv 1) (aNil)) aNil)))))))) (rtS (cw (.bl false))) (nx)) (rtS (andV (bin gtI (bin ixW (gb 0) (cw (.int 0))) (cw (.int 0))) (andV (bin geI (bin ixW (gb 0) (cw (.int 1))) (cw (.int 0))) (bin geI (bin ixW (gb 0) (cw (.int 2))) (cw (.int 0))))))) ρ
theorem b_is_form {f : Addr} {cdv : Value} {A : Around} {outer : List Env} {s : Shared} {H : Hp} {E : XK} (T : TX K mg) (hr : Room 1 (A.deeper (envOfC "is_form" (defScope s_is_form) s.heap.objs.size f cdv))) (hg : A.guards = some []) :
    PSsi (clK cN K) (fun c d _ H => E c d H) (cxOf (CX P w) P w K mg base n_is_form "is_form" (defScope s_is_form) f cdv A outer s H E) (defBody s_is_form) g_is_form :=
  have hN := sc_is_form.nd
  (pssi_cons (psi_if (PWi.pt (pw_ori (pt_noti (pt_i (pi_callB2 (cw_isi (isi T)) (by rfl) (T.free 8) bt_isinstance (pb_v 0) (PEi.toB (pi_tyN (T.free 4) bt_tuple))))) (pw_ori (pt_cmpi (ow_neD hr.units) (PEi.toB (pi_callB1 cw_len (by rfl) (T.free 6) bt_len (pb_v 0))) (PEi.toB pi_int) (nomark _)) (pw_or1i (pt_noti (pt_i (pi_callB1 (cw_all rfl) (by rfl) (T.free 11) bt_all (PEi.toB (PEf.toI (pf_lc (own := [("part", 1)]) rfl hN (pii_seq (pi_v 0)) (blkOk_by (by kernel_rfl)) (by decide) (fun _ _ _ _ _ => (pgi_name 1 hN)) (fun _ _ _ _ _ => ptsi_nil) (fun _ _ _ _ _ => (pi_call (ok_is_integer T) (hr.mono (by decide)) hg tkF (T.glo 10) (kp_is_integer T) (pai_cons (pi_v 1) pai_nil))))))))))))) (pssi_one (psi_ret (PEi.toB pi_bl))) pssi_nil) (pssi_one (psi_ret (PEi.toB (pi_and (pi_cmp ow_gt (PEi.toB (pi_ix (pb_v 0) (PEi.toB pi_int))) (PEi.toB pi_int) (nomark _)) (pi_and (pi_cmp ow_ge (PEi.toB (pi_ix (pb_v 0) (PEi.toB pi_int))) (PEi.toB pi_int) (nomark _)) (pi_one (pi_cmp ow_ge (PEi.toB (pi_ix (pb_v 0) (PEi.toB pi_int))) (PEi.toB pi_int) (nomark _)))))))))
def f_is_form (ws kws : List W) : M W := bindW 1 [] [0] (bodyM 2 g_is_form) ws kws
theorem ok_is_form (T : TX K mg) : FnA P w K mg base (clK cN K) 2 (He.fAd K ("is_form", none)) [] f_is_form := by
  obtain ⟨fd, F⟩ := T.def_ 5
  exact fnA_D (k := 1) F sc_is_form (shape_n F 1 [] [0] (fun _ _ _ _ _ _ us zs h1 h2 => match us, h1, zs, h2 with | [_], _, [], _ => rfl)) (fun _ _ _ _ _ _ hr hg => b_is_form T hr hg)
def n_check_forms : List Str := ["forms", "last", "sizes", "one", "other", "form"]
theorem sc_check_forms : FnScope n_check_forms ["forms", "last"] (defScope s_check_forms) := ⟨rfl, rfl, rfl, by decide +kernel, rfl, by decide +kernel, by decide +kernel⟩
def g_check_forms_l1 (ρ : List Sl) : M Fl := (ifS (orT (tst (bin ltI (bin ixW (gb 4) (cw (.int 1))) (bin ixW (gb 3) (cw (.int 1))))) (tst (bin ltI (bin ixW (gb 4) (cw (.int 2))) (bin ixW (gb 3) (cw (.int 2)))))) (rsS 10 "word" (cw (.str "reach"))) (nx)) ρ
def g_check_forms (ρ : List Sl) : M Fl := (sq (ifS (tst (bin gtI (un1 lenW (gb 0)) (cw (.int 2)))) (rsS 10 "word" (cw (.str "many"))) (nx)) (sq (ifS (notT (tst (un1 allW (lstF (compE [5] (itS (gv 0)) (toN 5) (yesT) (callF f_is_form (aCons (gv 5) (aNil)) aNil)))))) (rsS 10 "word" (cw (.str "form"))) (nx)) (sq (ifS (orT (notT (tst (callF f_is_integer (aCons (gv 1) (aNil)) aNil))) (tst (bin ltI (gb 1) (cw (.int 1))))) (rsS 10 "word" (cw (.str "last"))) (nx)) (sq (asg (lstF (dLst (aStar (lstF (compE [5] (itS (gv 0)) (toN 5) (yesT) (bin ixW (gb 5) (cw (.int 0))))) (aCons (gv 1) (aNil))))) (toN 2)) (sq (ifS (tst (un1 anyW (lstF (compE [3, 4] (itZip (gv 2) (lstF (slL (gb 2) (pSome (cw (.int 1))) (pNone)))) (toT (tsCons (toN 3) (tsCons (toN 4) (tsNil)))) (yesT) (bin geI (gb 3) (gb 4)))))) (rsS 10 "word" (cw (.str "size"))) (nx)) (forS (itZip (gv 0) (slT (gb 0) (pSome (cw (.int 1))) (pNone))) (toT (tsCons (toN 3) (tsCons (toN 4) (tsNil)))) g_check_forms_l1)))))) ρ
theorem b_check_forms {f : Addr} {cdv : Value} {A : Around} {outer : List Env} {s : Shared} {H : Hp} {E : XK} (T : TX K mg) (hr : Room 2 (A.deeper (envOfC "check_forms" (defScope s_check_forms) s.heap.objs.size f cdv))) (hg : A.guards = some []) :
    PSsi (clK cN K) (fun c d _ H => E c d H) (cxOf (CX P w) P w K mg base n_check_forms "check_forms" (defScope s_check_forms) f cdv A outer s H E) (defBody s_check_forms) g_check_forms :=
  have hN := sc_check_forms.nd
  (pssi_cons (psi_if (pt_cmpi ow_gt (PEi.toB (pi_callB1 cw_len (by rfl) (T.free 6) bt_len (pb_v 0))) (PEi.toB pi_int) (nomark _)) (pssi_one (psi_rs (c := 10) rfl tkC eb_value (rsB_ok (ex0 T)) (ri_InvalidLadder T) (hr.mono (by decide)) (T.glo 7) pi_str)) pssi_nil) (pssi_cons (psi_if (pt_noti (pt_i (pi_callB1 (cw_all rfl) (by rfl) (T.free 11) bt_all (PEi.toB (PEf.toI (pf_lc (own := [("form", 5)]) rfl hN (pii_seq (pi_v 0)) (blkOk_by (by kernel_rfl)) (by decide) (fun _ _ _ _ _ => (pgi_name 5 hN)) (fun _ _ _ _ _ => ptsi_nil) (fun _ _ _ _ _ => (pi_call (ok_is_form T) (hr.mono (by decide)) hg tkF (T.glo 12) (kp_is_form T) (pai_cons (pi_v 5) pai_nil))))))))) (pssi_one (psi_rs (c := 10) rfl tkC eb_value (rsB_ok (ex0 T)) (ri_InvalidLadder T) (hr.mono (by decide)) (T.glo 7) pi_str)) pssi_nil) (pssi_cons (psi_if (PWi.pt (pw_ori (pt_noti (pt_i (pi_call (ok_is_integer T) (hr.mono (by decide)) hg tkC (T.glo 10) (kp_is_integer T) (pai_cons (pi_v 1) pai_nil)))) (pw_or1i (pt_cmpi ow_lt (pb_v 1) (PEi.toB pi_int) (nomark _))))) (pssi_one (psi_rs (c := 10) rfl tkC eb_value (rsB_ok (ex0 T)) (ri_InvalidLadder T) (hr.mono (by decide)) (T.glo 7) pi_str)) pssi_nil) (pssi_cons (psi_asg (PEf.toI (pf_lst (pai_star (PEi.toB (PEf.toI (pf_lc (own := [("form", 5)]) rfl hN (pii_seq (pi_v 0)) (blkOk_by (by kernel_rfl)) (by decide) (fun _ _ _ _ _ => (pgi_name 5 hN)) (fun _ _ _ _ _ => ptsi_nil) (fun _ _ _ _ _ => (pi_ix (pb_v 5) (PEi.toB pi_int)))))) (pai_cons (pi_v 1) pai_nil)))) (pgi_name 2 hN)) (pssi_cons (psi_if (pt_i (pi_callB1 (cw_any rfl) (by rfl) (T.free 14) bt_any (PEi.toB (PEf.toI (pf_lc (own := [("one", 3), ("other", 4)]) rfl hN (pii_zip (by rfl) (T.free 13) (pi_v 2) (PEf.toI (pf_sl (pb_v 2) (poi_some pi_int) poi_none))) (blkOk_by (by kernel_rfl)) (by decide) (fun _ _ _ _ _ => (pgi_tup (takes_cons (takes_cons takes_nil)) (pg_tup rfl (pgsi_cons (pgi_name 3 hN) (pgsi_cons (pgi_name 4 hN) pgsi_nil))))) (fun _ _ _ _ _ => ptsi_nil) (fun _ _ _ _ _ => (pi_cmp ow_ge (pb_v 3) (pb_v 4) (nomark _)))))))) (pssi_one (psi_rs (c := 10) rfl tkC eb_value (rsB_ok (ex0 T)) (ri_InvalidLadder T) (hr.mono (by decide)) (T.glo 7) pi_str)) pssi_nil) (pssi_one (psi_for (g := g_check_forms_l1) poC rfl (pii_zip (by rfl) (T.free 13) (pi_v 0) (pi_slT (pb_v 0) (poi_some pi_int) poi_none)) (pgi_tup (takes_cons (takes_cons takes_nil)) (pg_tup rfl (pgsi_cons (pgi_name 3 hN) (pgsi_cons (pgi_name 4 hN) pgsi_nil)))) (pssi_one (psi_if (PWi.pt (pw_ori (pt_cmpi ow_lt (PEi.toB (pi_ix (pb_v 4) (PEi.toB pi_int))) (PEi.toB (pi_ix (pb_v 3) (PEi.toB pi_int))) (nomark _)) (pw_or1i (pt_cmpi ow_lt (PEi.toB (pi_ix (pb_v 4) (PEi.toB pi_int))) (PEi.toB (pi_ix (pb_v 3) (PEi.toB pi_int))) (nomark _))))) (pssi_one (psi_rs (c := 10) rfl tkC eb_value (rsB_ok (ex0 T)) (ri_InvalidLadder T) (hr.mono (by decide)) (T.glo 7) pi_str)) pssi_nil)))))))))
def f_check_forms (ws kws : List W) : M W := bindW 2 [] [0, 1] (bodyM 6 g_check_forms) ws kws
theorem ok_check_forms (T : TX K mg) : FnA P w K mg base (clK cN K) 3 (He.fAd K ("check_forms", none)) [] f_check_forms := by
  obtain ⟨fd, F⟩ := T.def_ 6
  exact fnA_D (k := 2) F sc_check_forms (shape_n F 2 [] [0, 1] (fun _ _ _ _ _ _ us zs h1 h2 => match us, h1, zs, h2 with | [_, _], _, [], _ => rfl)) (fun _ _ _ _ _ _ hr hg => b_check_forms T hr hg)
def n_LadderD_initD : List Str := ["self", "last", "forms", "form"]
theorem sc_LadderD_initD : FnScope n_LadderD_initD ["self", "last", "forms"] (defScope s_LadderD_initD) := ⟨rfl, rfl, rfl, by decide +kernel, rfl, by decide +kernel, by decide +kernel⟩
def g_LadderD_initD (ρ : List Sl) : M Fl := (sq (drp (callF f_check_forms (aCons (gv 2) (aCons (gv 1) (aNil))) aNil)) (sq (stO 0 [0] "forms" (un1 tupleW (gb 2))) (sq (stO 0 [0] "last" (gv 1)) (stO 0 [0] "sizes" (dTup (aStar (lstF (compE [3] (itS (gv 2)) (toN 3) (yesT) (bin ixW (gb 3) (cw (.int 0))))) (aCons (gv 1) (aNil)))))))) ρ
theorem b_LadderD_initD {f : Addr} {cdv : Value} {A : Around} {outer : List Env} {s : Shared} {H : Hp} {E : XK} (T : TX K mg) (hr : Room 3 (A.deeper (envOfC "Ladder.__init__" (defScope s_LadderD_initD) s.heap.objs.size f cdv))) (hg : A.guards = some []) :
    PSsi (clK cN K) (fun c d _ H => E c d H) (cxOf (CX P w) P w K mg base n_LadderD_initD "Ladder.__init__" (defScope s_LadderD_initD) f cdv A outer s H E) (defBody s_LadderD_initD) g_LadderD_initD :=
  have hN := sc_LadderD_initD.nd
  (pssi_cons (psi_expr (pi_call (ok_check_forms T) (hr.mono (by decide)) hg tkC (T.glo 15) (kp_check_forms T) (pai_cons (pi_v 2) (pai_cons (pi_v 1) pai_nil)))) (pssi_cons (psi_stO 0 [0] (.cons (T.cls 16) (T.noat 17) .nil) (pi_callT1 cw_tuple (by rfl) (T.free 4) bt_tuple (pb_v 2))) (pssi_cons (psi_stO 0 [0] (.cons (T.cls 16) (T.noat 18) .nil) (pi_v 1)) (pssi_one (psi_stO 0 [0] (.cons (T.cls 16) (T.noat 19) .nil) (pi_tup (pai_star (PEi.toB (PEf.toI (pf_lc (own := [("form", 3)]) rfl hN (pii_seq (pi_v 2)) (blkOk_by (by kernel_rfl)) (by decide) (fun _ _ _ _ _ => (pgi_name 3 hN)) (fun _ _ _ _ _ => ptsi_nil) (fun _ _ _ _ _ => (pi_ix (pb_v 3) (PEi.toB pi_int)))))) (pai_cons (pi_v 1) pai_nil))))))))
def f_LadderD_initD__last (ws kws : List W) : M (List Str × List W) := bindStar (bodyN 4 0 g_LadderD_initD) ws kws
theorem ok_LadderD_initD__last (T : TX K mg) : FnN P w K mg base (clK cN K) 0 4 (He.fAd K ("Ladder", some "__init__")) ["last"] f_LadderD_initD__last := by
  obtain ⟨fd, F⟩ := T.def_ 7
  exact fnN_starD (k := 3) F sc_LadderD_initD (fun _ _ _ _ _ _ u us zs h => match us, zs, h with | [], [_], _ => rfl | _ :: _, [_], _ => rfl) (fun _ _ _ _ _ _ hr hg => b_LadderD_initD T hr hg)
def n_law_ladder_of : List Str := ["_law_told_here", "_law_forms", "_law_end"]
theorem sc_law_ladder_of : FnScope n_law_ladder_of ["_law_told_here"] (defScope s_law_ladder_of) := ⟨rfl, rfl, rfl, by decide +kernel, rfl, by decide +kernel, by decide +kernel⟩
def g_law_ladder_of (ρ : List Sl) : M Fl := (sq (asg (gv 0) (toT (tsCons (toN 1) (tsCons (toN 2) (tsNil))))) (sq (ifS (tst (bin (eqD false) (un1 lenW (gb 1)) (cw (.int 0)))) (rtS (callF (kwF 1 (mkF 0 f_LadderD_initD__last)) aNil (aCons (gv 2) (aNil)))) (nx)) (rtS (ifE (tst (bin (eqD false) (un1 lenW (gb 1)) (cw (.int 1)))) (callF (kwF 1 (mkF 0 f_LadderD_initD__last)) (aCons (bin ixW (gb 1) (cw (.int 0))) (aNil)) (aCons (gv 2) (aNil))) (callF (kwF 1 (mkF 0 f_LadderD_initD__last)) (aCons (bin ixW (gb 1) (cw (.int 0))) (aCons (bin ixW (gb 1) (cw (.int 1))) (aNil))) (aCons (gv 2) (aNil))))))) ρ
theorem b_law_ladder_of {f : Addr} {cdv : Value} {A : Around} {outer : List Env} {s : Shared} {H : Hp} {E : XK} (T : TX K mg) (hr : Room 5 (A.deeper (envOfC "_law_ladder_of" (defScope s_law_ladder_of) s.heap.objs.size f cdv))) (hg : A.guards = some []) :
    PSsi (clK cN K) (fun c d _ H => E c d H) (cxOf (CX P w) P w K mg base n_law_ladder_of "_law_ladder_of" (defScope s_law_ladder_of) f cdv A outer s H E) (defBody s_law_ladder_of) g_law_ladder_of :=
  have hN := sc_law_ladder_of.nd
  (pssi_cons (psi_asg (pi_v 0) (pgi_tup (takes_cons (takes_cons takes_nil)) (pg_tup rfl (pgsi_cons (pgi_name 1 hN) (pgsi_cons (pgi_name 2 hN) pgsi_nil))))) (pssi_cons (psi_if (pt_cmpi (ow_eqD hr.units) (PEi.toB (pi_callB1 cw_len (by rfl) (T.free 6) bt_len (pb_v 1))) (PEi.toB pi_int) (nomark _)) (pssi_one (psi_ret (PEi.toB (pi_makeK0 (c := 0) (T.mkr 20) (ok_LadderD_initD__last T) (hr.mono (by decide)) hg tkC (T.glo 21) (pki_cons (pi_v 2) pki_nil))))) pssi_nil) (pssi_one (psi_ret (PEi.toB (pi_if (pt_cmpi (ow_eqD hr.units) (PEi.toB (pi_callB1 cw_len (by rfl) (T.free 6) bt_len (pb_v 1))) (PEi.toB pi_int) (nomark _)) (pi_makeK (c := 0) (T.mkr 20) (ok_LadderD_initD__last T) (hr.mono (by decide)) hg tkC (T.glo 21) (pai_cons (pi_ix (pb_v 1) (PEi.toB pi_int)) pai_nil) (pki_cons (pi_v 2) pki_nil)) (pi_makeK (c := 0) (T.mkr 20) (ok_LadderD_initD__last T) (hr.mono (by decide)) hg tkC (T.glo 21) (pai_cons (pi_ix (pb_v 1) (PEi.toB pi_int)) (pai_cons (pi_ix (pb_v 1) (PEi.toB pi_int)) pai_nil)) (pki_cons (pi_v 2) pki_nil))))))))
def f_law_ladder_of (ws kws : List W) : M W := bindW 1 [] [0] (bodyM 3 g_law_ladder_of) ws kws
theorem ok_law_ladder_of (T : TX K mg) : FnA P w K mg base (clK cN K) 6 (He.fAd K ("_law_ladder_of", none)) [] f_law_ladder_of := by
  obtain ⟨fd, F⟩ := T.def_ 8
  exact fnA_D (k := 5) F sc_law_ladder_of (shape_n F 1 [] [0] (fun _ _ _ _ _ _ us zs h1 h2 => match us, h1, zs, h2 with | [_], _, [], _ => rfl)) (fun _ _ _ _ _ _ hr hg => b_law_ladder_of T hr hg)
theorem ri_NoForm (T : TX K mg) : ∃ fd, FnOk P w K mg base CX0 1 (He.fAd K ("NoForm", some "__init__")) fd ["self", "form"] (spX K "form") ∧ Binds K fd ["self", "form"] [] := by
  obtain ⟨fd, F⟩ := T.def_ 9
  exact ⟨fd, init_ok F ⟨rfl, rfl, rfl, by decide +kernel, rfl, by decide +kernel, by decide +kernel⟩, F.bindsN fun _ _ _ _ _ _ us hl => match us, hl with | [_, _], _ => rfl⟩
def n_Ladder_need : List Str := ["self", "form"]
theorem sc_Ladder_need : FnScope n_Ladder_need ["self", "form"] (defScope s_Ladder_need) := ⟨rfl, rfl, rfl, by decide +kernel, rfl, by decide +kernel, by decide +kernel⟩
def g_Ladder_need (ρ : List Sl) : M Fl := (ifS (notT (tst (chn leI leI (cw (.int 0)) (gb 1) (un1 lenW (un1 (fldW [0] "forms") (gv 0)))))) (rsS 25 "form" (gv 1)) (nx)) ρ
theorem b_Ladder_need {f : Addr} {cdv : Value} {A : Around} {outer : List Env} {s : Shared} {H : Hp} {E : XK} (T : TX K mg) (hr : Room 2 (A.deeper (envOfC "Ladder.need" (defScope s_Ladder_need) s.heap.objs.size f cdv))) (hg : A.guards = some []) :
    PSsi (clK cN K) (fun c d _ H => E c d H) (cxOf (CX P w) P w K mg base n_Ladder_need "Ladder.need" (defScope s_Ladder_need) f cdv A outer s H E) (defBody s_Ladder_need) g_Ladder_need :=
  have hN := sc_Ladder_need.nd
  (pssi_one (psi_if (pt_noti (pt_chaini ow_le ow_le (PEi.toB pi_int) (pb_v 1) (PEi.toB (pi_callB1 cw_len (by rfl) (T.free 6) bt_len (PEi.toB (pi_fld [0] (.cons (T.cls 16) (T.noat 17) .nil) (pi_v 0))))))) (pssi_one (psi_rs (c := 25) rfl tkC eb_index (rsB_ok (ex2 T)) (ri_NoForm T) (hr.mono (by decide)) (T.glo 23) (pi_v 1))) pssi_nil))
def f_Ladder_need (ws kws : List W) : M W := bindW 2 [] [0, 1] (bodyM 2 g_Ladder_need) ws kws
theorem ok_Ladder_need (T : TX K mg) : FnA P w K mg base (clK cN K) 3 (He.fAd K ("Ladder", some "need")) [] f_Ladder_need := by
  obtain ⟨fd, F⟩ := T.def_ 10
  exact fnA_D (k := 2) F sc_Ladder_need (shape_n F 2 [] [0, 1] (fun _ _ _ _ _ _ us zs h1 h2 => match us, h1, zs, h2 with | [_, _], _, [], _ => rfl)) (fun _ _ _ _ _ _ hr hg => b_Ladder_need T hr hg)
def n_Ladder_reach : List Str := ["self", "form", "forward"]
theorem sc_Ladder_reach : FnScope n_Ladder_reach ["self", "form", "forward"] (defScope s_Ladder_reach) := ⟨rfl, rfl, rfl, by decide +kernel, rfl, by decide +kernel, by decide +kernel⟩
def g_Ladder_reach (ρ : List Sl) : M Fl := (sq (drp (methF 0 "need" f_Ladder_need (gv 0) (aCons (gv 1) (aNil)) aNil)) (rtS (ifE (tst (bin (eqD false) (gb 1) (un1 lenW (un1 (fldW [0] "forms") (gv 0))))) (cw .non) (bin ixW (bin ixW (un1 (fldW [0] "forms") (gv 0)) (gb 1)) (ifE (tst (gv 2)) (cw (.int 2)) (cw (.int 1))))))) ρ
theorem b_Ladder_reach {f : Addr} {cdv : Value} {A : Around} {outer : List Env} {s : Shared} {H : Hp} {E : XK} (T : TX K mg) (hr : Room 3 (A.deeper (envOfC "Ladder.reach" (defScope s_Ladder_reach) s.heap.objs.size f cdv))) (hg : A.guards = some []) :
    PSsi (clK cN K) (fun c d _ H => E c d H) (cxOf (CX P w) P w K mg base n_Ladder_reach "Ladder.reach" (defScope s_Ladder_reach) f cdv A outer s H E) (defBody s_Ladder_reach) g_Ladder_reach :=
  have hN := sc_Ladder_reach.nd
  (pssi_cons (psi_expr (pi_meth (c := 0) (ok_Ladder_need T) (hr.mono (by decide)) hg tkC ⟨(T.cls 16), T.meth 24⟩ (pi_v 0) (pai_cons (pi_v 1) pai_nil))) (pssi_one (psi_ret (PEi.toB (pi_if (pt_cmpi (ow_eqD hr.units) (pb_v 1) (PEi.toB (pi_callB1 cw_len (by rfl) (T.free 6) bt_len (PEi.toB (pi_fld [0] (.cons (T.cls 16) (T.noat 17) .nil) (pi_v 0))))) (nomark _)) pi_non (pi_ix (PEi.toB (pi_ix (PEi.toB (pi_fld [0] (.cons (T.cls 16) (T.noat 17) .nil) (pi_v 0))) (pb_v 1))) (PEi.toB (pi_if (pt_i (pi_v 2)) pi_int pi_int))))))))
def f_Ladder_reach__forward (ws kws : List W) : M W := bindW 2 [] [0, 1, 2] (bodyM 3 g_Ladder_reach) ws kws
theorem ok_Ladder_reach__forward (T : TX K mg) : FnA P w K mg base (clK cN K) 4 (He.fAd K ("Ladder", some "reach")) ["forward"] f_Ladder_reach__forward := by
  obtain ⟨fd, F⟩ := T.def_ 11
  exact fnA_D (k := 3) F sc_Ladder_reach (shape_n F 2 ["forward"] [0, 1, 2] (fun _ _ _ _ _ _ us zs h1 h2 => match us, h1, zs, h2 with | [_, _], _, [_], _ => rfl)) (fun _ _ _ _ _ _ hr hg => b_Ladder_reach T hr hg)
def n_Ladder_reaches : List Str := ["self", "form", "distance", "forward", "most"]
theorem sc_Ladder_reaches : FnScope n_Ladder_reaches ["self", "form", "distance", "forward"] (defScope s_Ladder_reaches) := ⟨rfl, rfl, rfl, by decide +kernel, rfl, by decide +kernel, by decide +kernel⟩
def g_Ladder_reaches (ρ : List Sl) : M Fl := (sq (asg (methF 0 "reach" (kwF 1 f_Ladder_reach__forward) (gv 0) (aCons (gv 1) (aNil)) (aCons (gv 3) (aNil))) (toN 4)) (rtS (orV (isN false (gb 4)) (bin leI (gb 2) (gb 4))))) ρ
theorem b_Ladder_reaches {f : Addr} {cdv : Value} {A : Around} {outer : List Env} {s : Shared} {H : Hp} {E : XK} (T : TX K mg) (hr : Room 4 (A.deeper (envOfC "Ladder.reaches" (defScope s_Ladder_reaches) s.heap.objs.size f cdv))) (hg : A.guards = some []) :
    PSsi (clK cN K) (fun c d _ H => E c d H) (cxOf (CX P w) P w K mg base n_Ladder_reaches "Ladder.reaches" (defScope s_Ladder_reaches) f cdv A outer s H E) (defBody s_Ladder_reaches) g_Ladder_reaches :=
  have hN := sc_Ladder_reaches.nd
  (pssi_cons (psi_asg (pi_methK (c := 0) (ok_Ladder_reach__forward T) (hr.mono (by decide)) hg tkC ⟨(T.cls 16), T.meth 25⟩ (pi_v 0) (pai_cons (pi_v 1) pai_nil) (pki_cons (pi_v 3) pki_nil)) (pgi_name 4 hN)) (pssi_one (psi_ret (PEi.toB (pi_or (pi_isN (pb_v 4)) (pi_one (pi_cmp ow_le (pb_v 2) (pb_v 4) (nomark _))))))))
def f_Ladder_reaches__forward (ws kws : List W) : M W := bindW 3 [] [0, 1, 2, 3] (bodyM 5 g_Ladder_reaches) ws kws
theorem ok_Ladder_reaches__forward (T : TX K mg) : FnA P w K mg base (clK cN K) 5 (He.fAd K ("Ladder", some "reaches")) ["forward"] f_Ladder_reaches__forward := by
  obtain ⟨fd, F⟩ := T.def_ 12
  exact fnA_D (k := 4) F sc_Ladder_reaches (shape_n F 3 ["forward"] [0, 1, 2, 3] (fun _ _ _ _ _ _ us zs h1 h2 => match us, h1, zs, h2 with | [_, _, _], _, [_], _ => rfl)) (fun _ _ _ _ _ _ hr hg => b_Ladder_reaches T hr hg)
def n_Ladder_first : List Str := ["self", "distance", "forward", "least"]
theorem sc_Ladder_first : FnScope n_Ladder_first ["self", "distance", "forward", "least"] (defScope s_Ladder_first) := ⟨rfl, rfl, rfl, by decide +kernel, rfl, by decide +kernel, by decide +kernel⟩
def g_Ladder_first_l1 (ρ : List Sl) : M Fl := (augI 3 addI (cw (.int 1))) ρ
def g_Ladder_first (ρ : List Sl) : M Fl := (sq (drp (methF 0 "need" f_Ladder_need (gv 0) (aCons (gv 3) (aNil)) aNil)) (sq (whlX (notT (tst (methF 0 "reaches" (kwF 1 f_Ladder_reaches__forward) (gv 0) (aCons (gv 3) (aCons (gv 1) (aNil))) (aCons (gv 2) (aNil))))) g_Ladder_first_l1) (rtS (gb 3)))) ρ
theorem b_Ladder_first {f : Addr} {cdv : Value} {A : Around} {outer : List Env} {s : Shared} {H : Hp} {E : XK} (T : TX K mg) (hr : Room 5 (A.deeper (envOfC "Ladder.first" (defScope s_Ladder_first) s.heap.objs.size f cdv))) (hg : A.guards = some []) :
    PSsi (clK cN K) (fun c d _ H => E c d H) (cxOf (CX P w) P w K mg base n_Ladder_first "Ladder.first" (defScope s_Ladder_first) f cdv A outer s H E) (defBody s_Ladder_first) g_Ladder_first :=
  have hN := sc_Ladder_first.nd
  (pssi_cons (psi_expr (pi_meth (c := 0) (ok_Ladder_need T) (hr.mono (by decide)) hg tkC ⟨(T.cls 16), T.meth 24⟩ (pi_v 0) (pai_cons (pi_v 3) pai_nil))) (pssi_cons (psi_whileX (g := g_Ladder_first_l1) poC (pt_noti (pt_i (pi_methK (c := 0) (ok_Ladder_reaches__forward T) (hr.mono (by decide)) hg tkC ⟨(T.cls 16), T.meth 26⟩ (pi_v 0) (pai_cons (pi_v 3) (pai_cons (pi_v 1) pai_nil)) (pki_cons (pi_v 2) pki_nil)))) (pssi_one (psi_augAdd 3 hN pi_int))) (pssi_one (psi_ret (pb_v 3)))))
def f_Ladder_first__forward_least (ws kws : List W) : M W := bindW 2 [] [0, 1, 2, 3] (bodyM 4 g_Ladder_first) ws kws
theorem ok_Ladder_first__forward_least (T : TX K mg) : FnA P w K mg base (clK cN K) 6 (He.fAd K ("Ladder", some "first")) ["forward", "least"] f_Ladder_first__forward_least := by
  obtain ⟨fd, F⟩ := T.def_ 13
  exact fnA_D (k := 5) F sc_Ladder_first (shape_n F 2 ["forward", "least"] [0, 1, 2, 3] (fun _ _ _ _ _ _ us zs h1 h2 => match us, h1, zs, h2 with | [_, _], _, [_, _], _ => rfl)) (fun _ _ _ _ _ _ hr hg => b_Ladder_first T hr hg)
def n_law_told : List Str := ["_law_ladder_here", "_law_form", "_law_far", "_law_is_forward", "_law_is_first", "_law_found", "e"]
theorem sc_law_told : FnScope n_law_told ["_law_ladder_here", "_law_form", "_law_far", "_law_is_forward", "_law_is_first"] (defScope s_law_told) := ⟨rfl, rfl, rfl, by decide +kernel, rfl, by decide +kernel, by decide +kernel⟩
def g_law_told (ρ : List Sl) : M Fl := (sq (asg (cw .non) (toN 5)) (sq (tryA [9, 10, 25] (fun k => ([25] : List Nat).contains k) 6 (ifS (tst (gv 4)) (asg (methF 0 "first" (kwF 2 f_Ladder_first__forward_least) (gv 0) (aCons (gv 2) (aNil)) (aCons (gv 3) (aCons (gv 1) (aNil)))) (toN 5)) (asg (methF 0 "reaches" (kwF 1 f_Ladder_reaches__forward) (gv 0) (aCons (gv 1) (aCons (gv 2) (aNil))) (aCons (gv 3) (aNil))) (toN 5))) (asg (dTup (aCons (cw (.str "none")) (aCons (xfF 6 [25] "form") (aNil)))) (toN 5))) (rtS (gb 5)))) ρ
theorem b_law_told {f : Addr} {cdv : Value} {A : Around} {outer : List Env} {s : Shared} {H : Hp} {E : XK} (T : TX K mg) (hr : Room 6 (A.deeper (envOfC "_law_told" (defScope s_law_told) s.heap.objs.size f cdv))) (hg : A.guards = some []) :
    PSsi (clK cN K) (fun c d _ H => E c d H) (cxOf (CX P w) P w K mg base n_law_told "_law_told" (defScope s_law_told) f cdv A outer s H E) (defBody s_law_told) g_law_told :=
  have hN := sc_law_told.nd
  (pssi_cons (psi_asg pi_non (pgi_name 5 hN)) (pssi_cons (psi_tryA (es := [9, 10, 25]) (c := (fun k => ([25] : List Nat).contains k)) (i := 6) rfl rfl hN tkC (nmC (T.glo 23)) (exmB_ok (ex1 T)) (fun W pn xe tk1 po1 => (pssi_one (psi_if (pt_i (pi_v 4)) (pssi_one (psi_asg (pi_methK (c := 0) (ok_Ladder_first__forward_least T) (hr.mono (by decide)) hg tk1 ⟨(T.cls 16), T.meth 27⟩ (pi_v 0) (pai_cons (pi_v 2) pai_nil) (pki_cons (pi_v 3) (pki_cons (pi_v 1) pki_nil))) (pgi_name 5 hN))) (pssi_one (psi_asg (pi_methK (c := 0) (ok_Ladder_reaches__forward T) (hr.mono (by decide)) hg tk1 ⟨(T.cls 16), T.meth 26⟩ (pi_v 0) (pai_cons (pi_v 1) (pai_cons (pi_v 2) pai_nil)) (pki_cons (pi_v 3) pki_nil)) (pgi_name 5 hN)))))) (fun a oe cls d pn hz hf => (pssi_one (psi_asg (pi_tup (pai_cons pi_str (pai_cons (pi_xf 6 [25] (xfsB_ok (ex3 T)) hz hf) pai_nil))) (pgi_name 5 hN))))) (pssi_one (psi_ret (pb_v 5)))))
def f_law_told (ws kws : List W) : M W := bindW 5 [] [0, 1, 2, 3, 4] (bodyM 7 g_law_told) ws kws
theorem ok_law_told (T : TX K mg) : FnA P w K mg base (clK cN K) 7 (He.fAd K ("_law_told", none)) [] f_law_told := by
  obtain ⟨fd, F⟩ := T.def_ 14
  exact fnA_D (k := 6) F sc_law_told (shape_n F 5 [] [0, 1, 2, 3, 4] (fun _ _ _ _ _ _ us zs h1 h2 => match us, h1, zs, h2 with | [_, _, _, _, _], _, [], _ => rfl)) (fun _ _ _ _ _ _ hr hg => b_law_told T hr hg)
def n_law_is_far : List Str := ["_law_told_here", "_law_form", "_law_far", "_law_is_forward", "_law_forms", "_law_end"]
theorem sc_law_is_far : FnScope n_law_is_far ["_law_told_here", "_law_form", "_law_far", "_law_is_forward"] (defScope s_law_is_far) := ⟨rfl, rfl, rfl, by decide +kernel, rfl, by decide +kernel, by decide +kernel⟩
def g_law_is_far (ρ : List Sl) : M Fl := (sq (asg (gv 0) (toT (tsCons (toN 4) (tsCons (toN 5) (tsNil))))) (rtS (andV (bin ltI (gb 1) (un1 lenW (gb 4))) (bin gtI (gb 2) (bin ixW (bin ixW (gb 4) (gb 1)) (bin addW (cw (.int 1)) (un1 intW (gb 3)))))))) ρ
theorem b_law_is_far {f : Addr} {cdv : Value} {A : Around} {outer : List Env} {s : Shared} {H : Hp} {E : XK} (T : TX K mg) (hr : Room 0 (A.deeper (envOfC "_law_is_far" (defScope s_law_is_far) s.heap.objs.size f cdv))) (hg : A.guards = some []) :
    PSsi (clK cN K) (fun c d _ H => E c d H) (cxOf (CX P w) P w K mg base n_law_is_far "_law_is_far" (defScope s_law_is_far) f cdv A outer s H E) (defBody s_law_is_far) g_law_is_far :=
  have hN := sc_law_is_far.nd
  (pssi_cons (psi_asg (pi_v 0) (pgi_tup (takes_cons (takes_cons takes_nil)) (pg_tup rfl (pgsi_cons (pgi_name 4 hN) (pgsi_cons (pgi_name 5 hN) pgsi_nil))))) (pssi_one (psi_ret (PEi.toB (pi_and (pi_cmp ow_lt (pb_v 1) (PEi.toB (pi_callB1 cw_len (by rfl) (T.free 6) bt_len (pb_v 4))) (nomark _)) (pi_one (pi_cmp ow_gt (pb_v 2) (PEi.toB (pi_ix (PEi.toB (pi_ix (pb_v 4) (pb_v 1))) (PEi.toB (pi_op ow_add (PEi.toB pi_int) (PEi.toB (pi_callT1 cw_int (by rfl) (T.free 0) bt_int (pb_v 3))))))) (nomark _))))))))
def f_law_is_far (ws kws : List W) : M W := bindW 4 [] [0, 1, 2, 3] (bodyM 6 g_law_is_far) ws kws
theorem ok_law_is_far (T : TX K mg) : FnA P w K mg base (clK cN K) 1 (He.fAd K ("_law_is_far", none)) [] f_law_is_far := by
  obtain ⟨fd, F⟩ := T.def_ 15
  exact fnA_D (k := 0) F sc_law_is_far (shape_n F 4 [] [0, 1, 2, 3] (fun _ _ _ _ _ _ us zs h1 h2 => match us, h1, zs, h2 with | [_, _, _, _], _, [], _ => rfl)) (fun _ _ _ _ _ _ hr hg => b_law_is_far T hr hg)
def n_law_is_right : List Str := ["_law_ladder_here", "_law_told_here", "_law_form", "_law_far", "_law_is_forward", "_law_many", "_law_due", "_law_both", "_law_is_near", "_law_first", "_law_is_first", "_law_k"]
theorem sc_law_is_right : FnScope n_law_is_right ["_law_ladder_here", "_law_told_here", "_law_form", "_law_far", "_law_is_forward"] (defScope s_law_is_right) := ⟨rfl, rfl, rfl, by decide +kernel, rfl, by decide +kernel, by decide +kernel⟩
def g_law_is_right (ρ : List Sl) : M Fl := (sq (asg (bin addW (un1 lenW (bin ixW (gb 1) (cw (.int 0)))) (cw (.int 1))) (toN 5)) (sq (ifS (notT (tst (chn leI ltI (cw (.int 0)) (gb 2) (gb 5)))) (sq (asg (dTup (aCons (cw (.str "none")) (aCons (gv 2) (aNil)))) (toN 6)) (sq (asg (lstF (compE [10] (itS (dTup (aCons (cw (.bl true)) (aCons (cw (.bl false)) (aNil))))) (toN 10) (yesT) (callF f_law_told (aCons (gv 0) (aCons (gv 2) (aCons (gv 3) (aCons (gv 4) (aCons (gv 10) (aNil)))))) aNil))) (toN 7)) (rtS (bin (eqD false) (gb 7) (lstF (dLst (aCons (gv 6) (aCons (gv 6) (aNil))))))))) (nx)) (sq (asg (notV (callF f_law_is_far (aCons (gv 1) (aCons (gv 2) (aCons (gv 3) (aCons (gv 4) (aNil))))) aNil)) (toN 8)) (sq (ifS (tst (bin (eqD true) (un1 reprW (callF f_law_told (aCons (gv 0) (aCons (gv 2) (aCons (gv 3) (aCons (gv 4) (aCons (cw (.bl false)) (aNil)))))) aNil)) (un1 reprW (gb 8)))) (rtS (cw (.bl false))) (nx)) (sq (asg (bin ixW (lstF (compE [11] (rng2 (gv 2) (gv 5)) (toN 11) (notT (tst (callF f_law_is_far (aCons (gv 1) (aCons (gv 11) (aCons (gv 3) (aCons (gv 4) (aNil))))) aNil))) (gv 11))) (cw (.int 0))) (toN 9)) (rtS (bin (eqD false) (un1 reprW (callF f_law_told (aCons (gv 0) (aCons (gv 2) (aCons (gv 3) (aCons (gv 4) (aCons (cw (.bl true)) (aNil)))))) aNil)) (un1 reprW (gb 9))))))))) ρ
theorem b_law_is_right {f : Addr} {cdv : Value} {A : Around} {outer : List Env} {s : Shared} {H : Hp} {E : XK} (T : TX K mg) (hr : Room 7 (A.deeper (envOfC "_law_is_right" (defScope s_law_is_right) s.heap.objs.size f cdv))) (hg : A.guards = some []) :
    PSsi (clK cN K) (fun c d _ H => E c d H) (cxOf (CX P w) P w K mg base n_law_is_right "_law_is_right" (defScope s_law_is_right) f cdv A outer s H E) (defBody s_law_is_right) g_law_is_right :=
  have hN := sc_law_is_right.nd
  (pssi_cons (psi_asg (pi_op ow_add (PEi.toB (pi_callB1 cw_len (by rfl) (T.free 6) bt_len (PEi.toB (pi_ix (pb_v 1) (PEi.toB pi_int))))) (PEi.toB pi_int)) (pgi_name 5 hN)) (pssi_cons (psi_if (pt_noti (pt_chaini ow_le ow_lt (PEi.toB pi_int) (pb_v 2) (pb_v 5))) (pssi_cons (psi_asg (pi_tup (pai_cons pi_str (pai_cons (pi_v 2) pai_nil))) (pgi_name 6 hN)) (pssi_cons (psi_setLc 7 (own := [("_law_is_first", 10)]) rfl hN (pii_seq (pi_tup (pai_cons pi_bl (pai_cons pi_bl pai_nil)))) (blkOk_by (by kernel_rfl)) (by decide) (fun _ _ _ _ _ => (pgi_name 10 hN)) (fun _ _ _ _ _ => ptsi_nil) (fun _ _ _ _ _ => (pi_call (ok_law_told T) (hr.mono (by decide)) hg tkF (T.glo 28) (kp_law_told T) (pai_cons (pi_v 0) (pai_cons (pi_v 2) (pai_cons (pi_v 3) (pai_cons (pi_v 4) (pai_cons (pi_v 10) pai_nil)))))))) (pssi_one (psi_ret (PEi.toB (pi_cmp (ow_eqD hr.units) (pb_v 7) (PEi.toB (PEf.toI (pf_lst (pai_cons (pi_v 6) (pai_cons (pi_v 6) pai_nil))))) (nomark _))))))) pssi_nil) (pssi_cons (psi_asg (pi_not (pi_call (ok_law_is_far T) (hr.mono (by decide)) hg tkC (T.glo 29) (kp_law_is_far T) (pai_cons (pi_v 1) (pai_cons (pi_v 2) (pai_cons (pi_v 3) (pai_cons (pi_v 4) pai_nil)))))) (pgi_name 8 hN)) (pssi_cons (psi_if (pt_cmpi (ow_neD hr.units) (PEi.toB (pi_callB1 (cw_repr hg hr.units) (by rfl) (T.free 30) bt_repr (PEi.toB (pi_call (ok_law_told T) (hr.mono (by decide)) hg tkC (T.glo 28) (kp_law_told T) (pai_cons (pi_v 0) (pai_cons (pi_v 2) (pai_cons (pi_v 3) (pai_cons (pi_v 4) (pai_cons pi_bl pai_nil))))))))) (PEi.toB (pi_callB1 (cw_repr hg hr.units) (by rfl) (T.free 30) bt_repr (pb_v 8))) (nomark _)) (pssi_one (psi_ret (PEi.toB pi_bl))) pssi_nil) (pssi_cons (psi_asg (pi_ix (PEi.toB (PEf.toI (pf_lc (own := [("_law_k", 11)]) rfl hN (pii_range2 (by rfl) (T.free 2) (pi_v 2) (pi_v 5)) (blkOk_by (by kernel_rfl)) (by decide) (fun _ _ _ _ _ => (pgi_name 11 hN)) (fun _ _ _ _ _ => (ptsi_one (pt_noti (pt_i (pi_call (ok_law_is_far T) (hr.mono (by decide)) hg tkF (T.glo 29) (kp_law_is_far T) (pai_cons (pi_v 1) (pai_cons (pi_v 11) (pai_cons (pi_v 3) (pai_cons (pi_v 4) pai_nil))))))))) (fun _ _ _ _ _ => (pi_v 11))))) (PEi.toB pi_int)) (pgi_name 9 hN)) (pssi_one (psi_ret (PEi.toB (pi_cmp (ow_eqD hr.units) (PEi.toB (pi_callB1 (cw_repr hg hr.units) (by rfl) (T.free 30) bt_repr (PEi.toB (pi_call (ok_law_told T) (hr.mono (by decide)) hg tkC (T.glo 28) (kp_law_told T) (pai_cons (pi_v 0) (pai_cons (pi_v 2) (pai_cons (pi_v 3) (pai_cons (pi_v 4) (pai_cons pi_bl pai_nil))))))))) (PEi.toB (pi_callB1 (cw_repr hg hr.units) (by rfl) (T.free 30) bt_repr (pb_v 9))) (nomark _))))))))))
def f_law_is_right (ws kws : List W) : M W := bindW 5 [] [0, 1, 2, 3, 4] (bodyM 12 g_law_is_right) ws kws
theorem ok_law_is_right (T : TX K mg) : FnA P w K mg base (clK cN K) 8 (He.fAd K ("_law_is_right", none)) [] f_law_is_right := by
  obtain ⟨fd, F⟩ := T.def_ 16
  exact fnA_D (k := 7) F sc_law_is_right (shape_n F 5 [] [0, 1, 2, 3, 4] (fun _ _ _ _ _ _ us zs h1 h2 => match us, h1, zs, h2 with | [_, _, _, _, _], _, [], _ => rfl)) (fun _ _ _ _ _ _ hr hg => b_law_is_right T hr hg)
def f_Ladder_first__forward (ws kws : List W) : M W := bindW 2 [.int 0] [0, 1, 2, 3] (bodyM 4 g_Ladder_first) ws kws
theorem ok_Ladder_first__forward (T : TX K mg) : FnA P w K mg base (clK cN K) 6 (He.fAd K ("Ladder", some "first")) ["forward"] f_Ladder_first__forward := by
  obtain ⟨fd, F⟩ := T.def_ 13
  exact fnA_D (k := 5) F sc_Ladder_first (shape_k F 2 ["forward"] [("least", .int 0)] [.int 0] [0, 1, 2, 3] (by simp [He.DefD.kws]) (by intro q h; simpa [He.DefD.kws, He.Dv.v] using h) (fun _ _ _ => (.cons .int .nil)) (fun _ _ _ _ _ _ us zs mv h1 h2 h3 => match us, h1, zs, h2, mv, h3 with | [_, _], _, [_], _, [_], _ => ⟨_, _, _, _, _, _, rfl, rfl, rfl⟩)) (fun _ _ _ _ _ _ hr hg => b_Ladder_first T hr hg)
def f_Ladder_first__least_forward (ws kws : List W) : M W := bindW 2 [] [0, 1, 3, 2] (bodyM 4 g_Ladder_first) ws kws
theorem ok_Ladder_first__least_forward (T : TX K mg) : FnA P w K mg base (clK cN K) 6 (He.fAd K ("Ladder", some "first")) ["least", "forward"] f_Ladder_first__least_forward := by
  obtain ⟨fd, F⟩ := T.def_ 13
  exact fnA_D (k := 5) F sc_Ladder_first (shape_n F 2 ["least", "forward"] [0, 1, 3, 2] (fun _ _ _ _ _ _ us zs h1 h2 => match us, h1, zs, h2 with | [_, _], _, [_, _], _ => rfl)) (fun _ _ _ _ _ _ hr hg => b_Ladder_first T hr hg)
def n_law : List Str := ["_law_script", "_law_deal_here", "_law_turn", "_law_told_here", "_law_ladder_here", "_law_spots", "_law_form", "_law_far", "_law_is_forward"]
theorem sc_law : FnScope n_law ["_law_script"] (defScope s_law) := ⟨rfl, rfl, rfl, by decide +kernel, rfl, by decide +kernel, by decide +kernel⟩
def g_law_l2 (ρ : List Sl) : M Fl := (extS 5 (lstF (dLst (aCons (bin ixW (gb 6) (cw (.int 1))) (aCons (bin addW (bin ixW (gb 6) (cw (.int 1))) (cw (.int 1))) (aCons (bin ixW (gb 6) (cw (.int 2))) (aCons (bin addW (bin ixW (gb 6) (cw (.int 2))) (cw (.int 1))) (aNil)))))))) ρ
def g_law_l5 (ρ : List Sl) : M Fl := (ifS (notT (tst (callF f_law_is_right (aCons (gv 4) (aCons (gv 3) (aCons (gv 6) (aCons (gv 7) (aCons (gv 8) (aNil)))))) aNil))) (rtS (cw (.bl false))) (nx)) ρ
def g_law_l4 (ρ : List Sl) : M Fl := (sq (forS (itS (dTup (aCons (cw (.int 0)) (aCons (cw (.int 1)) (aCons (cw (.int 2)) (aCons (cw (.int 3)) (aCons (neg1 (cw (.int 1))) (aNil)))))))) (toN 6) g_law_l5) (ifS (tst (bin (eqD true) (methF 0 "first" (kwF 1 f_Ladder_first__forward) (gv 4) (aCons (gv 7) (aNil)) (aCons (gv 8) (aNil))) (methF 0 "first" (kwF 2 f_Ladder_first__least_forward) (gv 4) (aCons (gv 7) (aNil)) (aCons (cw (.int 0)) (aCons (gv 8) (aNil)))))) (rtS (cw (.bl false))) (nx))) ρ
def g_law_l3 (ρ : List Sl) : M Fl := (forS (itS (dTup (aCons (cw (.bl true)) (aCons (cw (.bl false)) (aNil))))) (toN 8) g_law_l4) ρ
def g_law_l1 (ρ : List Sl) : M Fl := (sq (asg (callF f_law_ladder (aCons (gv 1) (aCons (bin ixW (lstF (dLst (aCons (cw (.int 2)) (aCons (cw (.int 9)) (aCons (cw (.int 400)) (aNil)))))) (gb 2)) (aNil))) aNil) (toN 3)) (sq (asg (callF f_law_ladder_of (aCons (gv 3) (aNil)) aNil) (toN 4)) (sq (asgF (dLst (aCons (cw (.int 0)) (aCons (bin powI (cw (.int 10)) (cw (.int 18))) (aCons (callF drawF (aCons (gv 1) (aCons (cw (.int 20)) (aNil))) aNil) (aNil))))) 5) (sq (forS (itS (bin ixW (gb 3) (cw (.int 0)))) (toN 6) g_law_l2) (frzF 5 (forS (itS (gv 5)) (toN 7) g_law_l3)))))) ρ
def g_law (ρ : List Sl) : M Fl := (sq (forS (rng1 (cw (.int 3))) (toN 2) g_law_l1) (rtS (cw (.bl true)))) ρ
theorem b_law {f : Addr} {cdv : Value} {A : Around} {outer : List Env} {s : Shared} {H : Hp} {E : XK} (T : TX K mg) (hr : Room 8 (A.deeper (envOfC "law" (defScope s_law) s.heap.objs.size f cdv))) (hg : A.guards = some []) :
    PSsi (clK cN K) WF (cxOf (CX P w) P w K mg base n_law "law" (defScope s_law) f cdv A outer s H E) (defBody s_law).tail g_law :=
  have hN := sc_law.nd
  (pssi_cons (psi_for (g := g_law_l1) poC rfl (pii_range1 (by rfl) (T.free 2) pi_int) (pgi_name 2 hN) (pssi_cons (psi_asg (pi_call (ok_law_ladder T) (hr.mono (by decide)) hg tkF (T.glo 5) (kp_law_ladder T) (pai_cons (pi_v 1) (pai_cons (pi_ix (PEi.toB (PEf.toI (pf_lst (pai_cons pi_int (pai_cons pi_int (pai_cons pi_int pai_nil)))))) (pb_v 2)) pai_nil))) (pgi_name 3 hN)) (pssi_cons (psi_asg (pi_call (ok_law_ladder_of T) (hr.mono (by decide)) hg tkF (T.glo 22) (kp_law_ladder_of T) (pai_cons (pi_v 3) pai_nil)) (pgi_name 4 hN)) (pssi_cons (psi_asgF 5 (pf_lst (pai_cons pi_int (pai_cons (pi_op ow_pow (PEi.toB pi_int) (PEi.toB pi_int)) (pai_cons (pi_call (ok_law_draw T) (hr.mono (by decide)) hg tkF (T.glo 3) (kp_law_draw T) (pai_cons (pi_v 1) (pai_cons pi_int pai_nil))) pai_nil)))) hN) (pssi_cons (psi_for (g := g_law_l2) poC rfl (pii_seq (pi_ix (pb_v 3) (PEi.toB pi_int))) (pgi_name 6 hN) (pssi_one (psi_ext 5 (PEf.toI (pf_lst (pai_cons (pi_ix (pb_v 6) (PEi.toB pi_int)) (pai_cons (pi_op ow_add (PEi.toB (pi_ix (pb_v 6) (PEi.toB pi_int))) (PEi.toB pi_int)) (pai_cons (pi_ix (pb_v 6) (PEi.toB pi_int)) (pai_cons (pi_op ow_add (PEi.toB (pi_ix (pb_v 6) (PEi.toB pi_int))) (PEi.toB pi_int)) pai_nil))))))))) (pssi_frz 5 (pssi_one (psi_for (g := g_law_l3) poC rfl (pii_seq (pi_v 5)) (pgi_name 7 hN) (pssi_one (psi_for (g := g_law_l4) poC rfl (pii_seq (pi_tup (pai_cons pi_bl (pai_cons pi_bl pai_nil)))) (pgi_name 8 hN) (pssi_cons (psi_for (g := g_law_l5) poC rfl (pii_seq (pi_tup (pai_cons pi_int (pai_cons pi_int (pai_cons pi_int (pai_cons pi_int (pai_cons (pi_neg pi_int) pai_nil))))))) (pgi_name 6 hN) (pssi_one (psi_if (pt_noti (pt_i (pi_call (ok_law_is_right T) (hr.mono (by decide)) hg tkF (T.glo 31) (kp_law_is_right T) (pai_cons (pi_v 4) (pai_cons (pi_v 3) (pai_cons (pi_v 6) (pai_cons (pi_v 7) (pai_cons (pi_v 8) pai_nil)))))))) (pssi_one (psi_ret (PEi.toB pi_bl))) pssi_nil))) (pssi_one (psi_if (pt_cmpi (ow_neD hr.units) (PEi.toB (pi_methK (c := 0) (ok_Ladder_first__forward T) (hr.mono (by decide)) hg tkF ⟨(T.cls 16), T.meth 27⟩ (pi_v 4) (pai_cons (pi_v 7) pai_nil) (pki_cons (pi_v 8) pki_nil))) (PEi.toB (pi_methK (c := 0) (ok_Ladder_first__least_forward T) (hr.mono (by decide)) hg tkF ⟨(T.cls 16), T.meth 27⟩ (pi_v 4) (pai_cons (pi_v 7) pai_nil) (pki_cons pi_int (pki_cons (pi_v 8) pki_nil)))) (nomark _)) (pssi_one (psi_ret (PEi.toB pi_bl))) pssi_nil))))))))))))) (pssi_one (psi_ret (PEi.toB pi_bl))))
def f0 : List Sl → M W := callF f_law_deal (aCons (gv 0) (aCons (cw (.int 0)) (aNil))) aNil
theorem h0 {f : Addr} {cdv : Value} {A : Around} {outer : List Env} {s : Shared} {H : Hp} {E : XK} (T : TX K mg) (hr : Room 8 (A.deeper (envOfC "law" (defScope s_law) s.heap.objs.size f cdv))) (hg : A.guards = some []) :
    PS (cxOf (CX P w) P w K mg base n_law "law" (defScope s_law) f cdv A outer s H E) ((defBody s_law).headD (.Pass ⟨0, 0, 0, 0⟩)) (tAsg (tI K (clK cN K) WF f0) (gName 1)) :=
  ps_asg (show PE _ _ (tI K (clK cN K) WF f0) from (pi_call (ok_law_deal T) (hr.mono (by decide)) hg tkF (T.glo 32) (kp_law_deal T) (pai_cons (pi_v 0) (pai_cons pi_int pai_nil)))) (pg_name sc_law.nd rfl (by first | exact Or.inl rfl | exact Or.inr rfl) (.inl rfl))
theorem run (T : TX K mg) {a : Addr} {ns : List Int} {s : Shared} {H : Hp} (hl : ns.length ≤ sizeLine) (e0 : Env0 P w K mg base callerA [] s H) (only : L2.Only H) (sq : SqL K H a (ns.map V.int))
    (q0 : (f0 (startS 9 [.ro (ns.map .int)])).run IsDeal (fun _ => False)) (q1 : (g_law (dealSlots 9 1)).run (fun fl => fl = .ret (.bl true)) (fun _ => False)) :
    codeAny (model P w) callerA (.call (.ref (He.ga K "law")) ⟨[.ref a], []⟩) (CR (CX P w) [] P w H s (fun v _ => v = .bl true) fun _ _ _ => False) s := by
  obtain ⟨fd, F⟩ := T.def_ 17
  exact law_run (st := (defBody s_law).headD (.Pass ⟨0, 0, 0, 0⟩)) (rest := (defBody s_law).tail) (k := 8) (i := 1) (N := n_law) (y := "_law_script") F sc_law ⟨rfl, by decide, by decide⟩ hl (fun _ _ _ _ _ _ _ => rfl) (fun _ _ _ _ _ _ hr hg => h0 T hr hg) (fun _ _ _ _ _ _ hr hg => b_law T hr hg) e0 only sq q0 q1
end
end K04


namespace K04
open PySem Sh
abbrev Fm : Type := Int × Int × Int
def fW (f : Fm) : W := .tup [.int f.1, .int f.2.1, .int f.2.2]
def ladW (fs : List Fm) (l : Int) : W := .ins 0 ["forms", "last", "sizes"] [.tup (fs.map fW), .int l, .tup (fs.map (fun f => .int f.1) ++ [.int l])]
theorem lad_forms (fs : List Fm) (l : Int) : fldW [0] "forms" (ladW fs l) = some (.tup (fs.map fW)) := rfl
theorem lad_last (fs : List Fm) (l : Int) : fldW [0] "last" (ladW fs l) = some (.int l) := rfl
theorem lad_sizes (fs : List Fm) (l : Int) : fldW [0] "sizes" (ladW fs l) = some (.tup (fs.map (fun f => .int f.1) ++ [.int l])) := rfl
theorem lad_recv (fs : List Fm) (l : Int) (m : Str) : recv 0 m (ladW fs l) = !(([("forms" : Str), "last", "sizes"] : List Str).contains m) := rfl
theorem lad_isIns (fs : List Fm) (l : Int) : isIns 0 (ladW fs l) = true := rfl
def LadOk : List Fm → Int → Prop
  | [], l => 0 < l
  | [f], l => 0 < f.1 ∧ 0 ≤ f.2.1 ∧ 0 ≤ f.2.2 ∧ f.1 < l
  | [f, g], l => 0 < f.1 ∧ 0 ≤ f.2.1 ∧ 0 ≤ f.2.2 ∧ f.1 < g.1 ∧ f.2.1 ≤ g.2.1 ∧ f.2.2 ≤ g.2.2 ∧ g.1 < l
  | _, _ => False
theorem f_is_integer_int (i : Int) : f_is_integer [.int i] [] = pure (.bl true) := by
  simp only [f_is_integer, g_is_integer, e_elim_elim, e_elim_bind, e_bind_elim, e_bind_bind, e_elim_run, e_bind_run, e_kE, e_kB, e_kR, e_elim_pure, e_elim_throw, e_elim_bad, e_ofO_some, e_ofO_none, e_Mpure, e_Mbind, e_pure_bind, e_throw_bind, e_bad_bind, e_pure_run, e_throw_run, e_bad_run, e_exN, e_sq, e_sqK_next, e_sqK_ret, e_sqK_exc, e_sqK_brk, e_sqK_cont, e_nx, e_brkS, e_contS, e_rtN, e_retK, e_rtS, e_dropK, e_drp, e_ifS, e_ifK, e_nextO, e_nextN, e_asg, e_asgK, e_asgX, e_asgXK, e_asgF, e_asgFK, e_setK, e_binK1, e_binK2, e_bin, e_augI, e_forL_nil, e_forL_cons, e_forB, e_forK_next, e_forK_cont, e_forK_brk, e_forK_ret, e_forK_exc, e_forSK, e_forS, e_itemsK, e_itS, e_rng1N, e_rng1L, e_rng1, e_rng2, e_rng2K, e_rng2J, e_zipK, e_zipL, e_zipT, e_itZip, e_enumK, e_itEnum, e_accOf, e_appK2, e_appK, e_appS, e_extK2, e_extK, e_extS, e_objK, e_stK2, e_stK, e_stO, e_gv, e_gb, e_gvK, e_gbK, e_gbA, e_cw, e_un1K, e_un1, e_unFK, e_unF, e_un1MK, e_un1M, e_binMK2, e_binMK1, e_binM, e_eqDF, e_eqF_not, e_eqF_ins, e_lenF_ins, e_lenF_not, e_noX_pure, e_asBK, e_tst, e_truK, e_tru, e_notK, e_notT, e_andK, e_orK, e_andT, e_orT, e_notVK, e_notV, e_andVK, e_orVK, e_andV, e_orV, e_ifEK, e_ifE, e_isN, e_isNK_non, e_isNK_int, e_isNK_tup, e_isNK_lst, e_isNK_str, e_isNK_bl, e_isNK_ins, e_negK, e_neg1, e_chn, e_chnK1, e_chnK2, e_chnK3, e_aNil, e_consK2, e_consK, e_aCons, e_starK2, e_starK1, e_aStar, e_tupK, e_lstK1, e_dTup, e_dLst, e_lstK, e_lstF, e_frzF, e_frz, e_frzO, e_frzOv, e_frzOn, e_xNil, e_xK2, e_xVK, e_xFK, e_xV, e_xF, e_partK, e_pNone, e_pSome, e_slTK3, e_slTK2, e_slTK1, e_slT, e_slLK3, e_slLK3r, e_slLK2, e_slLK1, e_slL, e_revK, e_revL, e_compK, e_compE, e_compL_nil, e_compL_cons, e_cK1, e_cK2, e_cK3, e_cK4, e_own_no, e_own_none, e_own_v, e_own_acc, e_own_obj, e_yesT, e_callK2, e_callK1, e_callF, e_skK2, e_skK1, e_skK0, e_callSK, e_mthK3, e_mthK2, e_mthK1, e_methF, e_kwF, e_mkF, e_insK, e_insM, e_bindW, e_bindN, e_bindStar, e_badX, e_bodyM, e_bodyN, e_endF_ret, e_endF_next, e_endF_exc, e_endN_next, e_endN_exc, e_objOf, e_recv, e_fldW, e_look, e_fldK, e_fldO, e_isIns, e_isIns_int, e_isIns_bl, e_isIns_str, e_isIns_non, e_isIns_tup, e_isIns_lst, e_asBool, e_negBool, e_addI, e_addW, e_subI, e_ltI, e_leI, e_gtI, e_geI, e_mulW, e_modI, e_fdivI, e_powI, e_pow9, e_pow18, e_pow20, e_lenT, e_lenL, e_intI, e_intB, e_absW, e_tupleL, e_tupleT, e_itemsL, e_itemsT, e_ixL, e_ixT, e_allW, e_anyW, e_sumW, e_rsK, e_rsS, e_tryA, e_tryK_exc, e_tryK_next, e_tryK_ret, e_goneK_next, e_goneK_ret, e_try1, e_try1K_exc, e_try1K_next, e_try1K_ret, e_stopX_next, e_stopX_ret, e_clr_nil, e_clr_v, e_clr_no, e_clr_acc, e_own_xcp, e_xfF, e_xfK, List.getElem?_cons_zero, List.getElem?_cons_succ, List.getElem?_nil, List.set_cons_zero, List.set_cons_succ, List.map_cons, List.map_nil, List.length_cons, List.length_nil, List.cons_append, List.nil_append, List.append_nil, List.replicate, List.filterMap_cons, List.filterMap_nil, Option.map_some, Option.map_none, Option.some_or, Option.none_or, Option.bind_some, Option.bind_none, Nat.add_zero, Nat.zero_add, Nat.reduceAdd, Nat.reduceSub, Nat.reduceLT, Nat.reduceLeDiff, Nat.reduceMul, Nat.sub_zero, Nat.sub_self, if_true, if_false, reduceIte, decide_true, decide_false, Bool.not_true, Bool.not_false, Bool.true_and, Bool.and_true, Bool.false_and, Bool.and_false, Bool.true_or, Bool.or_true, Bool.false_or, Bool.or_false, and_true, true_and, and_false, false_and, or_true, true_or, or_false, false_or, not_true, not_false_iff, reduceCtorEq, eq_self, ne_eq, Bool.false_eq_true, Bool.true_eq_false, List.all_cons, List.all_nil, List.any_cons, List.any_nil, List.contains_cons, List.contains_nil, id_eq, startS, startN, sel, toN, toT, tsNil, tsCons, putX, wipeS, asLen, allW, anyW, sumW, asBools, asInts, max2W, min2W, bbT, isiW, tyN, String.reduceEq, String.reduceBEq, String.reduceNe, eqD_int, Bool.false_xor, Bool.true_xor, Bool.xor_false, Bool.xor_true, Int.reduceEq, Int.reduceLT, Int.reduceLE, Int.reduceAdd, Int.reduceSub, Int.reduceMul, Int.reduceNeg, Int.reducePow, Int.reduceToNat, Int.cast_ofNat_Int, Int.toNat_zero, Int.toNat_one, Int.toNat_natCast, decide_eq_true_eq, atI_lit, cutW_fromL, cutW_toL, cutW_midL, List.drop, List.take, beq_self_eq_true, elim_ite, bind_ite', ofStr_eq, ofStr_beq, zipW, sL, sLt]
theorem f_is_form_ok (s b a : Int) (h1 : 0 < s) (h2 : 0 ≤ b) (h3 : 0 ≤ a) : f_is_form [.tup [.int s, .int b, .int a]] [] = pure (.bl true) := by
  simp only [f_is_form, g_is_form, e_elim_elim, e_elim_bind, e_bind_elim, e_bind_bind, e_elim_run, e_bind_run, e_kE, e_kB, e_kR, e_elim_pure, e_elim_throw, e_elim_bad, e_ofO_some, e_ofO_none, e_Mpure, e_Mbind, e_pure_bind, e_throw_bind, e_bad_bind, e_pure_run, e_throw_run, e_bad_run, e_exN, e_sq, e_sqK_next, e_sqK_ret, e_sqK_exc, e_sqK_brk, e_sqK_cont, e_nx, e_brkS, e_contS, e_rtN, e_retK, e_rtS, e_dropK, e_drp, e_ifS, e_ifK, e_nextO, e_nextN, e_asg, e_asgK, e_asgX, e_asgXK, e_asgF, e_asgFK, e_setK, e_binK1, e_binK2, e_bin, e_augI, e_forL_nil, e_forL_cons, e_forB, e_forK_next, e_forK_cont, e_forK_brk, e_forK_ret, e_forK_exc, e_forSK, e_forS, e_itemsK, e_itS, e_rng1N, e_rng1L, e_rng1, e_rng2, e_rng2K, e_rng2J, e_zipK, e_zipL, e_zipT, e_itZip, e_enumK, e_itEnum, e_accOf, e_appK2, e_appK, e_appS, e_extK2, e_extK, e_extS, e_objK, e_stK2, e_stK, e_stO, e_gv, e_gb, e_gvK, e_gbK, e_gbA, e_cw, e_un1K, e_un1, e_unFK, e_unF, e_un1MK, e_un1M, e_binMK2, e_binMK1, e_binM, e_eqDF, e_eqF_not, e_eqF_ins, e_lenF_ins, e_lenF_not, e_noX_pure, e_asBK, e_tst, e_truK, e_tru, e_notK, e_notT, e_andK, e_orK, e_andT, e_orT, e_notVK, e_notV, e_andVK, e_orVK, e_andV, e_orV, e_ifEK, e_ifE, e_isN, e_isNK_non, e_isNK_int, e_isNK_tup, e_isNK_lst, e_isNK_str, e_isNK_bl, e_isNK_ins, e_negK, e_neg1, e_chn, e_chnK1, e_chnK2, e_chnK3, e_aNil, e_consK2, e_consK, e_aCons, e_starK2, e_starK1, e_aStar, e_tupK, e_lstK1, e_dTup, e_dLst, e_lstK, e_lstF, e_frzF, e_frz, e_frzO, e_frzOv, e_frzOn, e_xNil, e_xK2, e_xVK, e_xFK, e_xV, e_xF, e_partK, e_pNone, e_pSome, e_slTK3, e_slTK2, e_slTK1, e_slT, e_slLK3, e_slLK3r, e_slLK2, e_slLK1, e_slL, e_revK, e_revL, e_compK, e_compE, e_compL_nil, e_compL_cons, e_cK1, e_cK2, e_cK3, e_cK4, e_own_no, e_own_none, e_own_v, e_own_acc, e_own_obj, e_yesT, e_callK2, e_callK1, e_callF, e_skK2, e_skK1, e_skK0, e_callSK, e_mthK3, e_mthK2, e_mthK1, e_methF, e_kwF, e_mkF, e_insK, e_insM, e_bindW, e_bindN, e_bindStar, e_badX, e_bodyM, e_bodyN, e_endF_ret, e_endF_next, e_endF_exc, e_endN_next, e_endN_exc, e_objOf, e_recv, e_fldW, e_look, e_fldK, e_fldO, e_isIns, e_isIns_int, e_isIns_bl, e_isIns_str, e_isIns_non, e_isIns_tup, e_isIns_lst, e_asBool, e_negBool, e_addI, e_addW, e_subI, e_ltI, e_leI, e_gtI, e_geI, e_mulW, e_modI, e_fdivI, e_powI, e_pow9, e_pow18, e_pow20, e_lenT, e_lenL, e_intI, e_intB, e_absW, e_tupleL, e_tupleT, e_itemsL, e_itemsT, e_ixL, e_ixT, e_allW, e_anyW, e_sumW, e_rsK, e_rsS, e_tryA, e_tryK_exc, e_tryK_next, e_tryK_ret, e_goneK_next, e_goneK_ret, e_try1, e_try1K_exc, e_try1K_next, e_try1K_ret, e_stopX_next, e_stopX_ret, e_clr_nil, e_clr_v, e_clr_no, e_clr_acc, e_own_xcp, e_xfF, e_xfK, List.getElem?_cons_zero, List.getElem?_cons_succ, List.getElem?_nil, List.set_cons_zero, List.set_cons_succ, List.map_cons, List.map_nil, List.length_cons, List.length_nil, List.cons_append, List.nil_append, List.append_nil, List.replicate, List.filterMap_cons, List.filterMap_nil, Option.map_some, Option.map_none, Option.some_or, Option.none_or, Option.bind_some, Option.bind_none, Nat.add_zero, Nat.zero_add, Nat.reduceAdd, Nat.reduceSub, Nat.reduceLT, Nat.reduceLeDiff, Nat.reduceMul, Nat.sub_zero, Nat.sub_self, if_true, if_false, reduceIte, decide_true, decide_false, Bool.not_true, Bool.not_false, Bool.true_and, Bool.and_true, Bool.false_and, Bool.and_false, Bool.true_or, Bool.or_true, Bool.false_or, Bool.or_false, and_true, true_and, and_false, false_and, or_true, true_or, or_false, false_or, not_true, not_false_iff, reduceCtorEq, eq_self, ne_eq, Bool.false_eq_true, Bool.true_eq_false, List.all_cons, List.all_nil, List.any_cons, List.any_nil, List.contains_cons, List.contains_nil, id_eq, startS, startN, sel, toN, toT, tsNil, tsCons, putX, wipeS, asLen, allW, anyW, sumW, asBools, asInts, max2W, min2W, bbT, isiW, tyN, String.reduceEq, String.reduceBEq, String.reduceNe, eqD_int, Bool.false_xor, Bool.true_xor, Bool.xor_false, Bool.xor_true, Int.reduceEq, Int.reduceLT, Int.reduceLE, Int.reduceAdd, Int.reduceSub, Int.reduceMul, Int.reduceNeg, Int.reducePow, Int.reduceToNat, Int.cast_ofNat_Int, Int.toNat_zero, Int.toNat_one, Int.toNat_natCast, decide_eq_true_eq, atI_lit, cutW_fromL, cutW_toL, cutW_midL, List.drop, List.take, beq_self_eq_true, elim_ite, bind_ite', ofStr_eq, ofStr_beq, zipW, sL, sLt, f_is_integer_int, h1, h2, h3]
theorem f_check_forms_ok (fs : List Fm) (l : Int) (h : LadOk fs l) : f_check_forms [.tup (fs.map fW), .int l] [] = pure .non := by
  match fs, h with
  | [], h =>
    have h' : ¬ l < 1 := by simp only [LadOk] at h; omega
    simp only [f_check_forms, g_check_forms, e_elim_elim, e_elim_bind, e_bind_elim, e_bind_bind, e_elim_run, e_bind_run, e_kE, e_kB, e_kR, e_elim_pure, e_elim_throw, e_elim_bad, e_ofO_some, e_ofO_none, e_Mpure, e_Mbind, e_pure_bind, e_throw_bind, e_bad_bind, e_pure_run, e_throw_run, e_bad_run, e_exN, e_sq, e_sqK_next, e_sqK_ret, e_sqK_exc, e_sqK_brk, e_sqK_cont, e_nx, e_brkS, e_contS, e_rtN, e_retK, e_rtS, e_dropK, e_drp, e_ifS, e_ifK, e_nextO, e_nextN, e_asg, e_asgK, e_asgX, e_asgXK, e_asgF, e_asgFK, e_setK, e_binK1, e_binK2, e_bin, e_augI, e_forL_nil, e_forL_cons, e_forB, e_forK_next, e_forK_cont, e_forK_brk, e_forK_ret, e_forK_exc, e_forSK, e_forS, e_itemsK, e_itS, e_rng1N, e_rng1L, e_rng1, e_rng2, e_rng2K, e_rng2J, e_zipK, e_zipL, e_zipT, e_itZip, e_enumK, e_itEnum, e_accOf, e_appK2, e_appK, e_appS, e_extK2, e_extK, e_extS, e_objK, e_stK2, e_stK, e_stO, e_gv, e_gb, e_gvK, e_gbK, e_gbA, e_cw, e_un1K, e_un1, e_unFK, e_unF, e_un1MK, e_un1M, e_binMK2, e_binMK1, e_binM, e_eqDF, e_eqF_not, e_eqF_ins, e_lenF_ins, e_lenF_not, e_noX_pure, e_asBK, e_tst, e_truK, e_tru, e_notK, e_notT, e_andK, e_orK, e_andT, e_orT, e_notVK, e_notV, e_andVK, e_orVK, e_andV, e_orV, e_ifEK, e_ifE, e_isN, e_isNK_non, e_isNK_int, e_isNK_tup, e_isNK_lst, e_isNK_str, e_isNK_bl, e_isNK_ins, e_negK, e_neg1, e_chn, e_chnK1, e_chnK2, e_chnK3, e_aNil, e_consK2, e_consK, e_aCons, e_starK2, e_starK1, e_aStar, e_tupK, e_lstK1, e_dTup, e_dLst, e_lstK, e_lstF, e_frzF, e_frz, e_frzO, e_frzOv, e_frzOn, e_xNil, e_xK2, e_xVK, e_xFK, e_xV, e_xF, e_partK, e_pNone, e_pSome, e_slTK3, e_slTK2, e_slTK1, e_slT, e_slLK3, e_slLK3r, e_slLK2, e_slLK1, e_slL, e_revK, e_revL, e_compK, e_compE, e_compL_nil, e_compL_cons, e_cK1, e_cK2, e_cK3, e_cK4, e_own_no, e_own_none, e_own_v, e_own_acc, e_own_obj, e_yesT, e_callK2, e_callK1, e_callF, e_skK2, e_skK1, e_skK0, e_callSK, e_mthK3, e_mthK2, e_mthK1, e_methF, e_kwF, e_mkF, e_insK, e_insM, e_bindW, e_bindN, e_bindStar, e_badX, e_bodyM, e_bodyN, e_endF_ret, e_endF_next, e_endF_exc, e_endN_next, e_endN_exc, e_objOf, e_recv, e_fldW, e_look, e_fldK, e_fldO, e_isIns, e_isIns_int, e_isIns_bl, e_isIns_str, e_isIns_non, e_isIns_tup, e_isIns_lst, e_asBool, e_negBool, e_addI, e_addW, e_subI, e_ltI, e_leI, e_gtI, e_geI, e_mulW, e_modI, e_fdivI, e_powI, e_pow9, e_pow18, e_pow20, e_lenT, e_lenL, e_intI, e_intB, e_absW, e_tupleL, e_tupleT, e_itemsL, e_itemsT, e_ixL, e_ixT, e_allW, e_anyW, e_sumW, e_rsK, e_rsS, e_tryA, e_tryK_exc, e_tryK_next, e_tryK_ret, e_goneK_next, e_goneK_ret, e_try1, e_try1K_exc, e_try1K_next, e_try1K_ret, e_stopX_next, e_stopX_ret, e_clr_nil, e_clr_v, e_clr_no, e_clr_acc, e_own_xcp, e_xfF, e_xfK, List.getElem?_cons_zero, List.getElem?_cons_succ, List.getElem?_nil, List.set_cons_zero, List.set_cons_succ, List.map_cons, List.map_nil, List.length_cons, List.length_nil, List.cons_append, List.nil_append, List.append_nil, List.replicate, List.filterMap_cons, List.filterMap_nil, Option.map_some, Option.map_none, Option.some_or, Option.none_or, Option.bind_some, Option.bind_none, Nat.add_zero, Nat.zero_add, Nat.reduceAdd, Nat.reduceSub, Nat.reduceLT, Nat.reduceLeDiff, Nat.reduceMul, Nat.sub_zero, Nat.sub_self, if_true, if_false, reduceIte, decide_true, decide_false, Bool.not_true, Bool.not_false, Bool.true_and, Bool.and_true, Bool.false_and, Bool.and_false, Bool.true_or, Bool.or_true, Bool.false_or, Bool.or_false, and_true, true_and, and_false, false_and, or_true, true_or, or_false, false_or, not_true, not_false_iff, reduceCtorEq, eq_self, ne_eq, Bool.false_eq_true, Bool.true_eq_false, List.all_cons, List.all_nil, List.any_cons, List.any_nil, List.contains_cons, List.contains_nil, id_eq, startS, startN, sel, toN, toT, tsNil, tsCons, putX, wipeS, asLen, allW, anyW, sumW, asBools, asInts, max2W, min2W, bbT, isiW, tyN, String.reduceEq, String.reduceBEq, String.reduceNe, eqD_int, Bool.false_xor, Bool.true_xor, Bool.xor_false, Bool.xor_true, Int.reduceEq, Int.reduceLT, Int.reduceLE, Int.reduceAdd, Int.reduceSub, Int.reduceMul, Int.reduceNeg, Int.reducePow, Int.reduceToNat, Int.cast_ofNat_Int, Int.toNat_zero, Int.toNat_one, Int.toNat_natCast, decide_eq_true_eq, atI_lit, cutW_fromL, cutW_toL, cutW_midL, List.drop, List.take, beq_self_eq_true, elim_ite, bind_ite', ofStr_eq, ofStr_beq, zipW, sL, sLt, f_is_integer_int, fW, g_check_forms_l1, h', sL]
  | [(s, b, a)], h =>
    obtain ⟨h1, h2, h3, h4⟩ := h
    dsimp only at h1 h2 h3 h4
    have h5 : ¬ l < 1 := by omega
    have h6 : ¬ l ≤ s := by omega
    have h7 := f_is_form_ok s b a h1 h2 h3
    simp only [f_check_forms, g_check_forms, e_elim_elim, e_elim_bind, e_bind_elim, e_bind_bind, e_elim_run, e_bind_run, e_kE, e_kB, e_kR, e_elim_pure, e_elim_throw, e_elim_bad, e_ofO_some, e_ofO_none, e_Mpure, e_Mbind, e_pure_bind, e_throw_bind, e_bad_bind, e_pure_run, e_throw_run, e_bad_run, e_exN, e_sq, e_sqK_next, e_sqK_ret, e_sqK_exc, e_sqK_brk, e_sqK_cont, e_nx, e_brkS, e_contS, e_rtN, e_retK, e_rtS, e_dropK, e_drp, e_ifS, e_ifK, e_nextO, e_nextN, e_asg, e_asgK, e_asgX, e_asgXK, e_asgF, e_asgFK, e_setK, e_binK1, e_binK2, e_bin, e_augI, e_forL_nil, e_forL_cons, e_forB, e_forK_next, e_forK_cont, e_forK_brk, e_forK_ret, e_forK_exc, e_forSK, e_forS, e_itemsK, e_itS, e_rng1N, e_rng1L, e_rng1, e_rng2, e_rng2K, e_rng2J, e_zipK, e_zipL, e_zipT, e_itZip, e_enumK, e_itEnum, e_accOf, e_appK2, e_appK, e_appS, e_extK2, e_extK, e_extS, e_objK, e_stK2, e_stK, e_stO, e_gv, e_gb, e_gvK, e_gbK, e_gbA, e_cw, e_un1K, e_un1, e_unFK, e_unF, e_un1MK, e_un1M, e_binMK2, e_binMK1, e_binM, e_eqDF, e_eqF_not, e_eqF_ins, e_lenF_ins, e_lenF_not, e_noX_pure, e_asBK, e_tst, e_truK, e_tru, e_notK, e_notT, e_andK, e_orK, e_andT, e_orT, e_notVK, e_notV, e_andVK, e_orVK, e_andV, e_orV, e_ifEK, e_ifE, e_isN, e_isNK_non, e_isNK_int, e_isNK_tup, e_isNK_lst, e_isNK_str, e_isNK_bl, e_isNK_ins, e_negK, e_neg1, e_chn, e_chnK1, e_chnK2, e_chnK3, e_aNil, e_consK2, e_consK, e_aCons, e_starK2, e_starK1, e_aStar, e_tupK, e_lstK1, e_dTup, e_dLst, e_lstK, e_lstF, e_frzF, e_frz, e_frzO, e_frzOv, e_frzOn, e_xNil, e_xK2, e_xVK, e_xFK, e_xV, e_xF, e_partK, e_pNone, e_pSome, e_slTK3, e_slTK2, e_slTK1, e_slT, e_slLK3, e_slLK3r, e_slLK2, e_slLK1, e_slL, e_revK, e_revL, e_compK, e_compE, e_compL_nil, e_compL_cons, e_cK1, e_cK2, e_cK3, e_cK4, e_own_no, e_own_none, e_own_v, e_own_acc, e_own_obj, e_yesT, e_callK2, e_callK1, e_callF, e_skK2, e_skK1, e_skK0, e_callSK, e_mthK3, e_mthK2, e_mthK1, e_methF, e_kwF, e_mkF, e_insK, e_insM, e_bindW, e_bindN, e_bindStar, e_badX, e_bodyM, e_bodyN, e_endF_ret, e_endF_next, e_endF_exc, e_endN_next, e_endN_exc, e_objOf, e_recv, e_fldW, e_look, e_fldK, e_fldO, e_isIns, e_isIns_int, e_isIns_bl, e_isIns_str, e_isIns_non, e_isIns_tup, e_isIns_lst, e_asBool, e_negBool, e_addI, e_addW, e_subI, e_ltI, e_leI, e_gtI, e_geI, e_mulW, e_modI, e_fdivI, e_powI, e_pow9, e_pow18, e_pow20, e_lenT, e_lenL, e_intI, e_intB, e_absW, e_tupleL, e_tupleT, e_itemsL, e_itemsT, e_ixL, e_ixT, e_allW, e_anyW, e_sumW, e_rsK, e_rsS, e_tryA, e_tryK_exc, e_tryK_next, e_tryK_ret, e_goneK_next, e_goneK_ret, e_try1, e_try1K_exc, e_try1K_next, e_try1K_ret, e_stopX_next, e_stopX_ret, e_clr_nil, e_clr_v, e_clr_no, e_clr_acc, e_own_xcp, e_xfF, e_xfK, List.getElem?_cons_zero, List.getElem?_cons_succ, List.getElem?_nil, List.set_cons_zero, List.set_cons_succ, List.map_cons, List.map_nil, List.length_cons, List.length_nil, List.cons_append, List.nil_append, List.append_nil, List.replicate, List.filterMap_cons, List.filterMap_nil, Option.map_some, Option.map_none, Option.some_or, Option.none_or, Option.bind_some, Option.bind_none, Nat.add_zero, Nat.zero_add, Nat.reduceAdd, Nat.reduceSub, Nat.reduceLT, Nat.reduceLeDiff, Nat.reduceMul, Nat.sub_zero, Nat.sub_self, if_true, if_false, reduceIte, decide_true, decide_false, Bool.not_true, Bool.not_false, Bool.true_and, Bool.and_true, Bool.false_and, Bool.and_false, Bool.true_or, Bool.or_true, Bool.false_or, Bool.or_false, and_true, true_and, and_false, false_and, or_true, true_or, or_false, false_or, not_true, not_false_iff, reduceCtorEq, eq_self, ne_eq, Bool.false_eq_true, Bool.true_eq_false, List.all_cons, List.all_nil, List.any_cons, List.any_nil, List.contains_cons, List.contains_nil, id_eq, startS, startN, sel, toN, toT, tsNil, tsCons, putX, wipeS, asLen, allW, anyW, sumW, asBools, asInts, max2W, min2W, bbT, isiW, tyN, String.reduceEq, String.reduceBEq, String.reduceNe, eqD_int, Bool.false_xor, Bool.true_xor, Bool.xor_false, Bool.xor_true, Int.reduceEq, Int.reduceLT, Int.reduceLE, Int.reduceAdd, Int.reduceSub, Int.reduceMul, Int.reduceNeg, Int.reducePow, Int.reduceToNat, Int.cast_ofNat_Int, Int.toNat_zero, Int.toNat_one, Int.toNat_natCast, decide_eq_true_eq, atI_lit, cutW_fromL, cutW_toL, cutW_midL, List.drop, List.take, beq_self_eq_true, elim_ite, bind_ite', ofStr_eq, ofStr_beq, zipW, sL, sLt, f_is_integer_int, fW, g_check_forms_l1, h5, h6, h7, sL]
  | [(s, b, a), (s', b', a')], h =>
    obtain ⟨h1, h2, h3, h4, h5, h6, h7⟩ := h
    dsimp only at h1 h2 h3 h4 h5 h6 h7
    have h8 : ¬ l < 1 := by omega
    have h9 : ¬ l ≤ s' := by omega
    have ha : ¬ s' ≤ s := by omega
    have hb := f_is_form_ok s b a h1 h2 h3
    have hc := f_is_form_ok s' b' a' (by omega) (by omega) (by omega)
    have hd : ¬ b' < b := by omega
    have he : ¬ a' < a := by omega
    simp only [f_check_forms, g_check_forms, e_elim_elim, e_elim_bind, e_bind_elim, e_bind_bind, e_elim_run, e_bind_run, e_kE, e_kB, e_kR, e_elim_pure, e_elim_throw, e_elim_bad, e_ofO_some, e_ofO_none, e_Mpure, e_Mbind, e_pure_bind, e_throw_bind, e_bad_bind, e_pure_run, e_throw_run, e_bad_run, e_exN, e_sq, e_sqK_next, e_sqK_ret, e_sqK_exc, e_sqK_brk, e_sqK_cont, e_nx, e_brkS, e_contS, e_rtN, e_retK, e_rtS, e_dropK, e_drp, e_ifS, e_ifK, e_nextO, e_nextN, e_asg, e_asgK, e_asgX, e_asgXK, e_asgF, e_asgFK, e_setK, e_binK1, e_binK2, e_bin, e_augI, e_forL_nil, e_forL_cons, e_forB, e_forK_next, e_forK_cont, e_forK_brk, e_forK_ret, e_forK_exc, e_forSK, e_forS, e_itemsK, e_itS, e_rng1N, e_rng1L, e_rng1, e_rng2, e_rng2K, e_rng2J, e_zipK, e_zipL, e_zipT, e_itZip, e_enumK, e_itEnum, e_accOf, e_appK2, e_appK, e_appS, e_extK2, e_extK, e_extS, e_objK, e_stK2, e_stK, e_stO, e_gv, e_gb, e_gvK, e_gbK, e_gbA, e_cw, e_un1K, e_un1, e_unFK, e_unF, e_un1MK, e_un1M, e_binMK2, e_binMK1, e_binM, e_eqDF, e_eqF_not, e_eqF_ins, e_lenF_ins, e_lenF_not, e_noX_pure, e_asBK, e_tst, e_truK, e_tru, e_notK, e_notT, e_andK, e_orK, e_andT, e_orT, e_notVK, e_notV, e_andVK, e_orVK, e_andV, e_orV, e_ifEK, e_ifE, e_isN, e_isNK_non, e_isNK_int, e_isNK_tup, e_isNK_lst, e_isNK_str, e_isNK_bl, e_isNK_ins, e_negK, e_neg1, e_chn, e_chnK1, e_chnK2, e_chnK3, e_aNil, e_consK2, e_consK, e_aCons, e_starK2, e_starK1, e_aStar, e_tupK, e_lstK1, e_dTup, e_dLst, e_lstK, e_lstF, e_frzF, e_frz, e_frzO, e_frzOv, e_frzOn, e_xNil, e_xK2, e_xVK, e_xFK, e_xV, e_xF, e_partK, e_pNone, e_pSome, e_slTK3, e_slTK2, e_slTK1, e_slT, e_slLK3, e_slLK3r, e_slLK2, e_slLK1, e_slL, e_revK, e_revL, e_compK, e_compE, e_compL_nil, e_compL_cons, e_cK1, e_cK2, e_cK3, e_cK4, e_own_no, e_own_none, e_own_v, e_own_acc, e_own_obj, e_yesT, e_callK2, e_callK1, e_callF, e_skK2, e_skK1, e_skK0, e_callSK, e_mthK3, e_mthK2, e_mthK1, e_methF, e_kwF, e_mkF, e_insK, e_insM, e_bindW, e_bindN, e_bindStar, e_badX, e_bodyM, e_bodyN, e_endF_ret, e_endF_next, e_endF_exc, e_endN_next, e_endN_exc, e_objOf, e_recv, e_fldW, e_look, e_fldK, e_fldO, e_isIns, e_isIns_int, e_isIns_bl, e_isIns_str, e_isIns_non, e_isIns_tup, e_isIns_lst, e_asBool, e_negBool, e_addI, e_addW, e_subI, e_ltI, e_leI, e_gtI, e_geI, e_mulW, e_modI, e_fdivI, e_powI, e_pow9, e_pow18, e_pow20, e_lenT, e_lenL, e_intI, e_intB, e_absW, e_tupleL, e_tupleT, e_itemsL, e_itemsT, e_ixL, e_ixT, e_allW, e_anyW, e_sumW, e_rsK, e_rsS, e_tryA, e_tryK_exc, e_tryK_next, e_tryK_ret, e_goneK_next, e_goneK_ret, e_try1, e_try1K_exc, e_try1K_next, e_try1K_ret, e_stopX_next, e_stopX_ret, e_clr_nil, e_clr_v, e_clr_no, e_clr_acc, e_own_xcp, e_xfF, e_xfK, List.getElem?_cons_zero, List.getElem?_cons_succ, List.getElem?_nil, List.set_cons_zero, List.set_cons_succ, List.map_cons, List.map_nil, List.length_cons, List.length_nil, List.cons_append, List.nil_append, List.append_nil, List.replicate, List.filterMap_cons, List.filterMap_nil, Option.map_some, Option.map_none, Option.some_or, Option.none_or, Option.bind_some, Option.bind_none, Nat.add_zero, Nat.zero_add, Nat.reduceAdd, Nat.reduceSub, Nat.reduceLT, Nat.reduceLeDiff, Nat.reduceMul, Nat.sub_zero, Nat.sub_self, if_true, if_false, reduceIte, decide_true, decide_false, Bool.not_true, Bool.not_false, Bool.true_and, Bool.and_true, Bool.false_and, Bool.and_false, Bool.true_or, Bool.or_true, Bool.false_or, Bool.or_false, and_true, true_and, and_false, false_and, or_true, true_or, or_false, false_or, not_true, not_false_iff, reduceCtorEq, eq_self, ne_eq, Bool.false_eq_true, Bool.true_eq_false, List.all_cons, List.all_nil, List.any_cons, List.any_nil, List.contains_cons, List.contains_nil, id_eq, startS, startN, sel, toN, toT, tsNil, tsCons, putX, wipeS, asLen, allW, anyW, sumW, asBools, asInts, max2W, min2W, bbT, isiW, tyN, String.reduceEq, String.reduceBEq, String.reduceNe, eqD_int, Bool.false_xor, Bool.true_xor, Bool.xor_false, Bool.xor_true, Int.reduceEq, Int.reduceLT, Int.reduceLE, Int.reduceAdd, Int.reduceSub, Int.reduceMul, Int.reduceNeg, Int.reducePow, Int.reduceToNat, Int.cast_ofNat_Int, Int.toNat_zero, Int.toNat_one, Int.toNat_natCast, decide_eq_true_eq, atI_lit, cutW_fromL, cutW_toL, cutW_midL, List.drop, List.take, beq_self_eq_true, elim_ite, bind_ite', ofStr_eq, ofStr_beq, zipW, sL, sLt, f_is_integer_int, fW, g_check_forms_l1, h8, h9, ha, hb, hc, hd, he, sL]
theorem f_init_ok (fs : List Fm) (l : Int) (h : LadOk fs l) : f_LadderD_initD__last (fs.map fW) [.int l] = pure ((["forms", "last", "sizes"] : List Str), ([.tup (fs.map fW), .int l, .tup (fs.map (fun f => .int f.1) ++ [.int l])] : List W)) := by
  have hc := f_check_forms_ok fs l h
  match fs, h, hc with
  | [], h, hc =>
    simp only [List.map_nil] at hc
    simp only [f_LadderD_initD__last, g_LadderD_initD, e_elim_elim, e_elim_bind, e_bind_elim, e_bind_bind, e_elim_run, e_bind_run, e_kE, e_kB, e_kR, e_elim_pure, e_elim_throw, e_elim_bad, e_ofO_some, e_ofO_none, e_Mpure, e_Mbind, e_pure_bind, e_throw_bind, e_bad_bind, e_pure_run, e_throw_run, e_bad_run, e_exN, e_sq, e_sqK_next, e_sqK_ret, e_sqK_exc, e_sqK_brk, e_sqK_cont, e_nx, e_brkS, e_contS, e_rtN, e_retK, e_rtS, e_dropK, e_drp, e_ifS, e_ifK, e_nextO, e_nextN, e_asg, e_asgK, e_asgX, e_asgXK, e_asgF, e_asgFK, e_setK, e_binK1, e_binK2, e_bin, e_augI, e_forL_nil, e_forL_cons, e_forB, e_forK_next, e_forK_cont, e_forK_brk, e_forK_ret, e_forK_exc, e_forSK, e_forS, e_itemsK, e_itS, e_rng1N, e_rng1L, e_rng1, e_rng2, e_rng2K, e_rng2J, e_zipK, e_zipL, e_zipT, e_itZip, e_enumK, e_itEnum, e_accOf, e_appK2, e_appK, e_appS, e_extK2, e_extK, e_extS, e_objK, e_stK2, e_stK, e_stO, e_gv, e_gb, e_gvK, e_gbK, e_gbA, e_cw, e_un1K, e_un1, e_unFK, e_unF, e_un1MK, e_un1M, e_binMK2, e_binMK1, e_binM, e_eqDF, e_eqF_not, e_eqF_ins, e_lenF_ins, e_lenF_not, e_noX_pure, e_asBK, e_tst, e_truK, e_tru, e_notK, e_notT, e_andK, e_orK, e_andT, e_orT, e_notVK, e_notV, e_andVK, e_orVK, e_andV, e_orV, e_ifEK, e_ifE, e_isN, e_isNK_non, e_isNK_int, e_isNK_tup, e_isNK_lst, e_isNK_str, e_isNK_bl, e_isNK_ins, e_negK, e_neg1, e_chn, e_chnK1, e_chnK2, e_chnK3, e_aNil, e_consK2, e_consK, e_aCons, e_starK2, e_starK1, e_aStar, e_tupK, e_lstK1, e_dTup, e_dLst, e_lstK, e_lstF, e_frzF, e_frz, e_frzO, e_frzOv, e_frzOn, e_xNil, e_xK2, e_xVK, e_xFK, e_xV, e_xF, e_partK, e_pNone, e_pSome, e_slTK3, e_slTK2, e_slTK1, e_slT, e_slLK3, e_slLK3r, e_slLK2, e_slLK1, e_slL, e_revK, e_revL, e_compK, e_compE, e_compL_nil, e_compL_cons, e_cK1, e_cK2, e_cK3, e_cK4, e_own_no, e_own_none, e_own_v, e_own_acc, e_own_obj, e_yesT, e_callK2, e_callK1, e_callF, e_skK2, e_skK1, e_skK0, e_callSK, e_mthK3, e_mthK2, e_mthK1, e_methF, e_kwF, e_mkF, e_insK, e_insM, e_bindW, e_bindN, e_bindStar, e_badX, e_bodyM, e_bodyN, e_endF_ret, e_endF_next, e_endF_exc, e_endN_next, e_endN_exc, e_objOf, e_recv, e_fldW, e_look, e_fldK, e_fldO, e_isIns, e_isIns_int, e_isIns_bl, e_isIns_str, e_isIns_non, e_isIns_tup, e_isIns_lst, e_asBool, e_negBool, e_addI, e_addW, e_subI, e_ltI, e_leI, e_gtI, e_geI, e_mulW, e_modI, e_fdivI, e_powI, e_pow9, e_pow18, e_pow20, e_lenT, e_lenL, e_intI, e_intB, e_absW, e_tupleL, e_tupleT, e_itemsL, e_itemsT, e_ixL, e_ixT, e_allW, e_anyW, e_sumW, e_rsK, e_rsS, e_tryA, e_tryK_exc, e_tryK_next, e_tryK_ret, e_goneK_next, e_goneK_ret, e_try1, e_try1K_exc, e_try1K_next, e_try1K_ret, e_stopX_next, e_stopX_ret, e_clr_nil, e_clr_v, e_clr_no, e_clr_acc, e_own_xcp, e_xfF, e_xfK, List.getElem?_cons_zero, List.getElem?_cons_succ, List.getElem?_nil, List.set_cons_zero, List.set_cons_succ, List.map_cons, List.map_nil, List.length_cons, List.length_nil, List.cons_append, List.nil_append, List.append_nil, List.replicate, List.filterMap_cons, List.filterMap_nil, Option.map_some, Option.map_none, Option.some_or, Option.none_or, Option.bind_some, Option.bind_none, Nat.add_zero, Nat.zero_add, Nat.reduceAdd, Nat.reduceSub, Nat.reduceLT, Nat.reduceLeDiff, Nat.reduceMul, Nat.sub_zero, Nat.sub_self, if_true, if_false, reduceIte, decide_true, decide_false, Bool.not_true, Bool.not_false, Bool.true_and, Bool.and_true, Bool.false_and, Bool.and_false, Bool.true_or, Bool.or_true, Bool.false_or, Bool.or_false, and_true, true_and, and_false, false_and, or_true, true_or, or_false, false_or, not_true, not_false_iff, reduceCtorEq, eq_self, ne_eq, Bool.false_eq_true, Bool.true_eq_false, List.all_cons, List.all_nil, List.any_cons, List.any_nil, List.contains_cons, List.contains_nil, id_eq, startS, startN, sel, toN, toT, tsNil, tsCons, putX, wipeS, asLen, allW, anyW, sumW, asBools, asInts, max2W, min2W, bbT, isiW, tyN, String.reduceEq, String.reduceBEq, String.reduceNe, eqD_int, Bool.false_xor, Bool.true_xor, Bool.xor_false, Bool.xor_true, Int.reduceEq, Int.reduceLT, Int.reduceLE, Int.reduceAdd, Int.reduceSub, Int.reduceMul, Int.reduceNeg, Int.reducePow, Int.reduceToNat, Int.cast_ofNat_Int, Int.toNat_zero, Int.toNat_one, Int.toNat_natCast, decide_eq_true_eq, atI_lit, cutW_fromL, cutW_toL, cutW_midL, List.drop, List.take, beq_self_eq_true, elim_ite, bind_ite', ofStr_eq, ofStr_beq, zipW, sL, sLt, sL, hc]
  | [(s, b, a)], h, hc =>
    simp only [List.map_cons, List.map_nil, fW] at hc
    simp only [f_LadderD_initD__last, g_LadderD_initD, e_elim_elim, e_elim_bind, e_bind_elim, e_bind_bind, e_elim_run, e_bind_run, e_kE, e_kB, e_kR, e_elim_pure, e_elim_throw, e_elim_bad, e_ofO_some, e_ofO_none, e_Mpure, e_Mbind, e_pure_bind, e_throw_bind, e_bad_bind, e_pure_run, e_throw_run, e_bad_run, e_exN, e_sq, e_sqK_next, e_sqK_ret, e_sqK_exc, e_sqK_brk, e_sqK_cont, e_nx, e_brkS, e_contS, e_rtN, e_retK, e_rtS, e_dropK, e_drp, e_ifS, e_ifK, e_nextO, e_nextN, e_asg, e_asgK, e_asgX, e_asgXK, e_asgF, e_asgFK, e_setK, e_binK1, e_binK2, e_bin, e_augI, e_forL_nil, e_forL_cons, e_forB, e_forK_next, e_forK_cont, e_forK_brk, e_forK_ret, e_forK_exc, e_forSK, e_forS, e_itemsK, e_itS, e_rng1N, e_rng1L, e_rng1, e_rng2, e_rng2K, e_rng2J, e_zipK, e_zipL, e_zipT, e_itZip, e_enumK, e_itEnum, e_accOf, e_appK2, e_appK, e_appS, e_extK2, e_extK, e_extS, e_objK, e_stK2, e_stK, e_stO, e_gv, e_gb, e_gvK, e_gbK, e_gbA, e_cw, e_un1K, e_un1, e_unFK, e_unF, e_un1MK, e_un1M, e_binMK2, e_binMK1, e_binM, e_eqDF, e_eqF_not, e_eqF_ins, e_lenF_ins, e_lenF_not, e_noX_pure, e_asBK, e_tst, e_truK, e_tru, e_notK, e_notT, e_andK, e_orK, e_andT, e_orT, e_notVK, e_notV, e_andVK, e_orVK, e_andV, e_orV, e_ifEK, e_ifE, e_isN, e_isNK_non, e_isNK_int, e_isNK_tup, e_isNK_lst, e_isNK_str, e_isNK_bl, e_isNK_ins, e_negK, e_neg1, e_chn, e_chnK1, e_chnK2, e_chnK3, e_aNil, e_consK2, e_consK, e_aCons, e_starK2, e_starK1, e_aStar, e_tupK, e_lstK1, e_dTup, e_dLst, e_lstK, e_lstF, e_frzF, e_frz, e_frzO, e_frzOv, e_frzOn, e_xNil, e_xK2, e_xVK, e_xFK, e_xV, e_xF, e_partK, e_pNone, e_pSome, e_slTK3, e_slTK2, e_slTK1, e_slT, e_slLK3, e_slLK3r, e_slLK2, e_slLK1, e_slL, e_revK, e_revL, e_compK, e_compE, e_compL_nil, e_compL_cons, e_cK1, e_cK2, e_cK3, e_cK4, e_own_no, e_own_none, e_own_v, e_own_acc, e_own_obj, e_yesT, e_callK2, e_callK1, e_callF, e_skK2, e_skK1, e_skK0, e_callSK, e_mthK3, e_mthK2, e_mthK1, e_methF, e_kwF, e_mkF, e_insK, e_insM, e_bindW, e_bindN, e_bindStar, e_badX, e_bodyM, e_bodyN, e_endF_ret, e_endF_next, e_endF_exc, e_endN_next, e_endN_exc, e_objOf, e_recv, e_fldW, e_look, e_fldK, e_fldO, e_isIns, e_isIns_int, e_isIns_bl, e_isIns_str, e_isIns_non, e_isIns_tup, e_isIns_lst, e_asBool, e_negBool, e_addI, e_addW, e_subI, e_ltI, e_leI, e_gtI, e_geI, e_mulW, e_modI, e_fdivI, e_powI, e_pow9, e_pow18, e_pow20, e_lenT, e_lenL, e_intI, e_intB, e_absW, e_tupleL, e_tupleT, e_itemsL, e_itemsT, e_ixL, e_ixT, e_allW, e_anyW, e_sumW, e_rsK, e_rsS, e_tryA, e_tryK_exc, e_tryK_next, e_tryK_ret, e_goneK_next, e_goneK_ret, e_try1, e_try1K_exc, e_try1K_next, e_try1K_ret, e_stopX_next, e_stopX_ret, e_clr_nil, e_clr_v, e_clr_no, e_clr_acc, e_own_xcp, e_xfF, e_xfK, List.getElem?_cons_zero, List.getElem?_cons_succ, List.getElem?_nil, List.set_cons_zero, List.set_cons_succ, List.map_cons, List.map_nil, List.length_cons, List.length_nil, List.cons_append, List.nil_append, List.append_nil, List.replicate, List.filterMap_cons, List.filterMap_nil, Option.map_some, Option.map_none, Option.some_or, Option.none_or, Option.bind_some, Option.bind_none, Nat.add_zero, Nat.zero_add, Nat.reduceAdd, Nat.reduceSub, Nat.reduceLT, Nat.reduceLeDiff, Nat.reduceMul, Nat.sub_zero, Nat.sub_self, if_true, if_false, reduceIte, decide_true, decide_false, Bool.not_true, Bool.not_false, Bool.true_and, Bool.and_true, Bool.false_and, Bool.and_false, Bool.true_or, Bool.or_true, Bool.false_or, Bool.or_false, and_true, true_and, and_false, false_and, or_true, true_or, or_false, false_or, not_true, not_false_iff, reduceCtorEq, eq_self, ne_eq, Bool.false_eq_true, Bool.true_eq_false, List.all_cons, List.all_nil, List.any_cons, List.any_nil, List.contains_cons, List.contains_nil, id_eq, startS, startN, sel, toN, toT, tsNil, tsCons, putX, wipeS, asLen, allW, anyW, sumW, asBools, asInts, max2W, min2W, bbT, isiW, tyN, String.reduceEq, String.reduceBEq, String.reduceNe, eqD_int, Bool.false_xor, Bool.true_xor, Bool.xor_false, Bool.xor_true, Int.reduceEq, Int.reduceLT, Int.reduceLE, Int.reduceAdd, Int.reduceSub, Int.reduceMul, Int.reduceNeg, Int.reducePow, Int.reduceToNat, Int.cast_ofNat_Int, Int.toNat_zero, Int.toNat_one, Int.toNat_natCast, decide_eq_true_eq, atI_lit, cutW_fromL, cutW_toL, cutW_midL, List.drop, List.take, beq_self_eq_true, elim_ite, bind_ite', ofStr_eq, ofStr_beq, zipW, sL, sLt, sL, hc, fW]
  | [(s, b, a), (s', b', a')], h, hc =>
    simp only [List.map_cons, List.map_nil, fW] at hc
    simp only [f_LadderD_initD__last, g_LadderD_initD, e_elim_elim, e_elim_bind, e_bind_elim, e_bind_bind, e_elim_run, e_bind_run, e_kE, e_kB, e_kR, e_elim_pure, e_elim_throw, e_elim_bad, e_ofO_some, e_ofO_none, e_Mpure, e_Mbind, e_pure_bind, e_throw_bind, e_bad_bind, e_pure_run, e_throw_run, e_bad_run, e_exN, e_sq, e_sqK_next, e_sqK_ret, e_sqK_exc, e_sqK_brk, e_sqK_cont, e_nx, e_brkS, e_contS, e_rtN, e_retK, e_rtS, e_dropK, e_drp, e_ifS, e_ifK, e_nextO, e_nextN, e_asg, e_asgK, e_asgX, e_asgXK, e_asgF, e_asgFK, e_setK, e_binK1, e_binK2, e_bin, e_augI, e_forL_nil, e_forL_cons, e_forB, e_forK_next, e_forK_cont, e_forK_brk, e_forK_ret, e_forK_exc, e_forSK, e_forS, e_itemsK, e_itS, e_rng1N, e_rng1L, e_rng1, e_rng2, e_rng2K, e_rng2J, e_zipK, e_zipL, e_zipT, e_itZip, e_enumK, e_itEnum, e_accOf, e_appK2, e_appK, e_appS, e_extK2, e_extK, e_extS, e_objK, e_stK2, e_stK, e_stO, e_gv, e_gb, e_gvK, e_gbK, e_gbA, e_cw, e_un1K, e_un1, e_unFK, e_unF, e_un1MK, e_un1M, e_binMK2, e_binMK1, e_binM, e_eqDF, e_eqF_not, e_eqF_ins, e_lenF_ins, e_lenF_not, e_noX_pure, e_asBK, e_tst, e_truK, e_tru, e_notK, e_notT, e_andK, e_orK, e_andT, e_orT, e_notVK, e_notV, e_andVK, e_orVK, e_andV, e_orV, e_ifEK, e_ifE, e_isN, e_isNK_non, e_isNK_int, e_isNK_tup, e_isNK_lst, e_isNK_str, e_isNK_bl, e_isNK_ins, e_negK, e_neg1, e_chn, e_chnK1, e_chnK2, e_chnK3, e_aNil, e_consK2, e_consK, e_aCons, e_starK2, e_starK1, e_aStar, e_tupK, e_lstK1, e_dTup, e_dLst, e_lstK, e_lstF, e_frzF, e_frz, e_frzO, e_frzOv, e_frzOn, e_xNil, e_xK2, e_xVK, e_xFK, e_xV, e_xF, e_partK, e_pNone, e_pSome, e_slTK3, e_slTK2, e_slTK1, e_slT, e_slLK3, e_slLK3r, e_slLK2, e_slLK1, e_slL, e_revK, e_revL, e_compK, e_compE, e_compL_nil, e_compL_cons, e_cK1, e_cK2, e_cK3, e_cK4, e_own_no, e_own_none, e_own_v, e_own_acc, e_own_obj, e_yesT, e_callK2, e_callK1, e_callF, e_skK2, e_skK1, e_skK0, e_callSK, e_mthK3, e_mthK2, e_mthK1, e_methF, e_kwF, e_mkF, e_insK, e_insM, e_bindW, e_bindN, e_bindStar, e_badX, e_bodyM, e_bodyN, e_endF_ret, e_endF_next, e_endF_exc, e_endN_next, e_endN_exc, e_objOf, e_recv, e_fldW, e_look, e_fldK, e_fldO, e_isIns, e_isIns_int, e_isIns_bl, e_isIns_str, e_isIns_non, e_isIns_tup, e_isIns_lst, e_asBool, e_negBool, e_addI, e_addW, e_subI, e_ltI, e_leI, e_gtI, e_geI, e_mulW, e_modI, e_fdivI, e_powI, e_pow9, e_pow18, e_pow20, e_lenT, e_lenL, e_intI, e_intB, e_absW, e_tupleL, e_tupleT, e_itemsL, e_itemsT, e_ixL, e_ixT, e_allW, e_anyW, e_sumW, e_rsK, e_rsS, e_tryA, e_tryK_exc, e_tryK_next, e_tryK_ret, e_goneK_next, e_goneK_ret, e_try1, e_try1K_exc, e_try1K_next, e_try1K_ret, e_stopX_next, e_stopX_ret, e_clr_nil, e_clr_v, e_clr_no, e_clr_acc, e_own_xcp, e_xfF, e_xfK, List.getElem?_cons_zero, List.getElem?_cons_succ, List.getElem?_nil, List.set_cons_zero, List.set_cons_succ, List.map_cons, List.map_nil, List.length_cons, List.length_nil, List.cons_append, List.nil_append, List.append_nil, List.replicate, List.filterMap_cons, List.filterMap_nil, Option.map_some, Option.map_none, Option.some_or, Option.none_or, Option.bind_some, Option.bind_none, Nat.add_zero, Nat.zero_add, Nat.reduceAdd, Nat.reduceSub, Nat.reduceLT, Nat.reduceLeDiff, Nat.reduceMul, Nat.sub_zero, Nat.sub_self, if_true, if_false, reduceIte, decide_true, decide_false, Bool.not_true, Bool.not_false, Bool.true_and, Bool.and_true, Bool.false_and, Bool.and_false, Bool.true_or, Bool.or_true, Bool.false_or, Bool.or_false, and_true, true_and, and_false, false_and, or_true, true_or, or_false, false_or, not_true, not_false_iff, reduceCtorEq, eq_self, ne_eq, Bool.false_eq_true, Bool.true_eq_false, List.all_cons, List.all_nil, List.any_cons, List.any_nil, List.contains_cons, List.contains_nil, id_eq, startS, startN, sel, toN, toT, tsNil, tsCons, putX, wipeS, asLen, allW, anyW, sumW, asBools, asInts, max2W, min2W, bbT, isiW, tyN, String.reduceEq, String.reduceBEq, String.reduceNe, eqD_int, Bool.false_xor, Bool.true_xor, Bool.xor_false, Bool.xor_true, Int.reduceEq, Int.reduceLT, Int.reduceLE, Int.reduceAdd, Int.reduceSub, Int.reduceMul, Int.reduceNeg, Int.reducePow, Int.reduceToNat, Int.cast_ofNat_Int, Int.toNat_zero, Int.toNat_one, Int.toNat_natCast, decide_eq_true_eq, atI_lit, cutW_fromL, cutW_toL, cutW_midL, List.drop, List.take, beq_self_eq_true, elim_ite, bind_ite', ofStr_eq, ofStr_beq, zipW, sL, sLt, sL, hc, fW]
theorem ladder_of_ok (fs : List Fm) (l : Int) (h : LadOk fs l) : f_law_ladder_of [.tup [.tup (fs.map fW), .int l]] [] = pure (ladW fs l) := by
  have hc := f_init_ok fs l h
  match fs, h, hc with
  | [], h, hc =>
    simp only [List.map_nil] at hc
    simp only [f_law_ladder_of, g_law_ladder_of, e_elim_elim, e_elim_bind, e_bind_elim, e_bind_bind, e_elim_run, e_bind_run, e_kE, e_kB, e_kR, e_elim_pure, e_elim_throw, e_elim_bad, e_ofO_some, e_ofO_none, e_Mpure, e_Mbind, e_pure_bind, e_throw_bind, e_bad_bind, e_pure_run, e_throw_run, e_bad_run, e_exN, e_sq, e_sqK_next, e_sqK_ret, e_sqK_exc, e_sqK_brk, e_sqK_cont, e_nx, e_brkS, e_contS, e_rtN, e_retK, e_rtS, e_dropK, e_drp, e_ifS, e_ifK, e_nextO, e_nextN, e_asg, e_asgK, e_asgX, e_asgXK, e_asgF, e_asgFK, e_setK, e_binK1, e_binK2, e_bin, e_augI, e_forL_nil, e_forL_cons, e_forB, e_forK_next, e_forK_cont, e_forK_brk, e_forK_ret, e_forK_exc, e_forSK, e_forS, e_itemsK, e_itS, e_rng1N, e_rng1L, e_rng1, e_rng2, e_rng2K, e_rng2J, e_zipK, e_zipL, e_zipT, e_itZip, e_enumK, e_itEnum, e_accOf, e_appK2, e_appK, e_appS, e_extK2, e_extK, e_extS, e_objK, e_stK2, e_stK, e_stO, e_gv, e_gb, e_gvK, e_gbK, e_gbA, e_cw, e_un1K, e_un1, e_unFK, e_unF, e_un1MK, e_un1M, e_binMK2, e_binMK1, e_binM, e_eqDF, e_eqF_not, e_eqF_ins, e_lenF_ins, e_lenF_not, e_noX_pure, e_asBK, e_tst, e_truK, e_tru, e_notK, e_notT, e_andK, e_orK, e_andT, e_orT, e_notVK, e_notV, e_andVK, e_orVK, e_andV, e_orV, e_ifEK, e_ifE, e_isN, e_isNK_non, e_isNK_int, e_isNK_tup, e_isNK_lst, e_isNK_str, e_isNK_bl, e_isNK_ins, e_negK, e_neg1, e_chn, e_chnK1, e_chnK2, e_chnK3, e_aNil, e_consK2, e_consK, e_aCons, e_starK2, e_starK1, e_aStar, e_tupK, e_lstK1, e_dTup, e_dLst, e_lstK, e_lstF, e_frzF, e_frz, e_frzO, e_frzOv, e_frzOn, e_xNil, e_xK2, e_xVK, e_xFK, e_xV, e_xF, e_partK, e_pNone, e_pSome, e_slTK3, e_slTK2, e_slTK1, e_slT, e_slLK3, e_slLK3r, e_slLK2, e_slLK1, e_slL, e_revK, e_revL, e_compK, e_compE, e_compL_nil, e_compL_cons, e_cK1, e_cK2, e_cK3, e_cK4, e_own_no, e_own_none, e_own_v, e_own_acc, e_own_obj, e_yesT, e_callK2, e_callK1, e_callF, e_skK2, e_skK1, e_skK0, e_callSK, e_mthK3, e_mthK2, e_mthK1, e_methF, e_kwF, e_mkF, e_insK, e_insM, e_bindW, e_bindN, e_bindStar, e_badX, e_bodyM, e_bodyN, e_endF_ret, e_endF_next, e_endF_exc, e_endN_next, e_endN_exc, e_objOf, e_recv, e_fldW, e_look, e_fldK, e_fldO, e_isIns, e_isIns_int, e_isIns_bl, e_isIns_str, e_isIns_non, e_isIns_tup, e_isIns_lst, e_asBool, e_negBool, e_addI, e_addW, e_subI, e_ltI, e_leI, e_gtI, e_geI, e_mulW, e_modI, e_fdivI, e_powI, e_pow9, e_pow18, e_pow20, e_lenT, e_lenL, e_intI, e_intB, e_absW, e_tupleL, e_tupleT, e_itemsL, e_itemsT, e_ixL, e_ixT, e_allW, e_anyW, e_sumW, e_rsK, e_rsS, e_tryA, e_tryK_exc, e_tryK_next, e_tryK_ret, e_goneK_next, e_goneK_ret, e_try1, e_try1K_exc, e_try1K_next, e_try1K_ret, e_stopX_next, e_stopX_ret, e_clr_nil, e_clr_v, e_clr_no, e_clr_acc, e_own_xcp, e_xfF, e_xfK, List.getElem?_cons_zero, List.getElem?_cons_succ, List.getElem?_nil, List.set_cons_zero, List.set_cons_succ, List.map_cons, List.map_nil, List.length_cons, List.length_nil, List.cons_append, List.nil_append, List.append_nil, List.replicate, List.filterMap_cons, List.filterMap_nil, Option.map_some, Option.map_none, Option.some_or, Option.none_or, Option.bind_some, Option.bind_none, Nat.add_zero, Nat.zero_add, Nat.reduceAdd, Nat.reduceSub, Nat.reduceLT, Nat.reduceLeDiff, Nat.reduceMul, Nat.sub_zero, Nat.sub_self, if_true, if_false, reduceIte, decide_true, decide_false, Bool.not_true, Bool.not_false, Bool.true_and, Bool.and_true, Bool.false_and, Bool.and_false, Bool.true_or, Bool.or_true, Bool.false_or, Bool.or_false, and_true, true_and, and_false, false_and, or_true, true_or, or_false, false_or, not_true, not_false_iff, reduceCtorEq, eq_self, ne_eq, Bool.false_eq_true, Bool.true_eq_false, List.all_cons, List.all_nil, List.any_cons, List.any_nil, List.contains_cons, List.contains_nil, id_eq, startS, startN, sel, toN, toT, tsNil, tsCons, putX, wipeS, asLen, allW, anyW, sumW, asBools, asInts, max2W, min2W, bbT, isiW, tyN, String.reduceEq, String.reduceBEq, String.reduceNe, eqD_int, Bool.false_xor, Bool.true_xor, Bool.xor_false, Bool.xor_true, Int.reduceEq, Int.reduceLT, Int.reduceLE, Int.reduceAdd, Int.reduceSub, Int.reduceMul, Int.reduceNeg, Int.reducePow, Int.reduceToNat, Int.cast_ofNat_Int, Int.toNat_zero, Int.toNat_one, Int.toNat_natCast, decide_eq_true_eq, atI_lit, cutW_fromL, cutW_toL, cutW_midL, List.drop, List.take, beq_self_eq_true, elim_ite, bind_ite', ofStr_eq, ofStr_beq, zipW, sL, sLt, sL, hc, ladW]
  | [(s, b, a)], h, hc =>
    simp only [List.map_cons, List.map_nil, fW] at hc
    simp only [f_law_ladder_of, g_law_ladder_of, e_elim_elim, e_elim_bind, e_bind_elim, e_bind_bind, e_elim_run, e_bind_run, e_kE, e_kB, e_kR, e_elim_pure, e_elim_throw, e_elim_bad, e_ofO_some, e_ofO_none, e_Mpure, e_Mbind, e_pure_bind, e_throw_bind, e_bad_bind, e_pure_run, e_throw_run, e_bad_run, e_exN, e_sq, e_sqK_next, e_sqK_ret, e_sqK_exc, e_sqK_brk, e_sqK_cont, e_nx, e_brkS, e_contS, e_rtN, e_retK, e_rtS, e_dropK, e_drp, e_ifS, e_ifK, e_nextO, e_nextN, e_asg, e_asgK, e_asgX, e_asgXK, e_asgF, e_asgFK, e_setK, e_binK1, e_binK2, e_bin, e_augI, e_forL_nil, e_forL_cons, e_forB, e_forK_next, e_forK_cont, e_forK_brk, e_forK_ret, e_forK_exc, e_forSK, e_forS, e_itemsK, e_itS, e_rng1N, e_rng1L, e_rng1, e_rng2, e_rng2K, e_rng2J, e_zipK, e_zipL, e_zipT, e_itZip, e_enumK, e_itEnum, e_accOf, e_appK2, e_appK, e_appS, e_extK2, e_extK, e_extS, e_objK, e_stK2, e_stK, e_stO, e_gv, e_gb, e_gvK, e_gbK, e_gbA, e_cw, e_un1K, e_un1, e_unFK, e_unF, e_un1MK, e_un1M, e_binMK2, e_binMK1, e_binM, e_eqDF, e_eqF_not, e_eqF_ins, e_lenF_ins, e_lenF_not, e_noX_pure, e_asBK, e_tst, e_truK, e_tru, e_notK, e_notT, e_andK, e_orK, e_andT, e_orT, e_notVK, e_notV, e_andVK, e_orVK, e_andV, e_orV, e_ifEK, e_ifE, e_isN, e_isNK_non, e_isNK_int, e_isNK_tup, e_isNK_lst, e_isNK_str, e_isNK_bl, e_isNK_ins, e_negK, e_neg1, e_chn, e_chnK1, e_chnK2, e_chnK3, e_aNil, e_consK2, e_consK, e_aCons, e_starK2, e_starK1, e_aStar, e_tupK, e_lstK1, e_dTup, e_dLst, e_lstK, e_lstF, e_frzF, e_frz, e_frzO, e_frzOv, e_frzOn, e_xNil, e_xK2, e_xVK, e_xFK, e_xV, e_xF, e_partK, e_pNone, e_pSome, e_slTK3, e_slTK2, e_slTK1, e_slT, e_slLK3, e_slLK3r, e_slLK2, e_slLK1, e_slL, e_revK, e_revL, e_compK, e_compE, e_compL_nil, e_compL_cons, e_cK1, e_cK2, e_cK3, e_cK4, e_own_no, e_own_none, e_own_v, e_own_acc, e_own_obj, e_yesT, e_callK2, e_callK1, e_callF, e_skK2, e_skK1, e_skK0, e_callSK, e_mthK3, e_mthK2, e_mthK1, e_methF, e_kwF, e_mkF, e_insK, e_insM, e_bindW, e_bindN, e_bindStar, e_badX, e_bodyM, e_bodyN, e_endF_ret, e_endF_next, e_endF_exc, e_endN_next, e_endN_exc, e_objOf, e_recv, e_fldW, e_look, e_fldK, e_fldO, e_isIns, e_isIns_int, e_isIns_bl, e_isIns_str, e_isIns_non, e_isIns_tup, e_isIns_lst, e_asBool, e_negBool, e_addI, e_addW, e_subI, e_ltI, e_leI, e_gtI, e_geI, e_mulW, e_modI, e_fdivI, e_powI, e_pow9, e_pow18, e_pow20, e_lenT, e_lenL, e_intI, e_intB, e_absW, e_tupleL, e_tupleT, e_itemsL, e_itemsT, e_ixL, e_ixT, e_allW, e_anyW, e_sumW, e_rsK, e_rsS, e_tryA, e_tryK_exc, e_tryK_next, e_tryK_ret, e_goneK_next, e_goneK_ret, e_try1, e_try1K_exc, e_try1K_next, e_try1K_ret, e_stopX_next, e_stopX_ret, e_clr_nil, e_clr_v, e_clr_no, e_clr_acc, e_own_xcp, e_xfF, e_xfK, List.getElem?_cons_zero, List.getElem?_cons_succ, List.getElem?_nil, List.set_cons_zero, List.set_cons_succ, List.map_cons, List.map_nil, List.length_cons, List.length_nil, List.cons_append, List.nil_append, List.append_nil, List.replicate, List.filterMap_cons, List.filterMap_nil, Option.map_some, Option.map_none, Option.some_or, Option.none_or, Option.bind_some, Option.bind_none, Nat.add_zero, Nat.zero_add, Nat.reduceAdd, Nat.reduceSub, Nat.reduceLT, Nat.reduceLeDiff, Nat.reduceMul, Nat.sub_zero, Nat.sub_self, if_true, if_false, reduceIte, decide_true, decide_false, Bool.not_true, Bool.not_false, Bool.true_and, Bool.and_true, Bool.false_and, Bool.and_false, Bool.true_or, Bool.or_true, Bool.false_or, Bool.or_false, and_true, true_and, and_false, false_and, or_true, true_or, or_false, false_or, not_true, not_false_iff, reduceCtorEq, eq_self, ne_eq, Bool.false_eq_true, Bool.true_eq_false, List.all_cons, List.all_nil, List.any_cons, List.any_nil, List.contains_cons, List.contains_nil, id_eq, startS, startN, sel, toN, toT, tsNil, tsCons, putX, wipeS, asLen, allW, anyW, sumW, asBools, asInts, max2W, min2W, bbT, isiW, tyN, String.reduceEq, String.reduceBEq, String.reduceNe, eqD_int, Bool.false_xor, Bool.true_xor, Bool.xor_false, Bool.xor_true, Int.reduceEq, Int.reduceLT, Int.reduceLE, Int.reduceAdd, Int.reduceSub, Int.reduceMul, Int.reduceNeg, Int.reducePow, Int.reduceToNat, Int.cast_ofNat_Int, Int.toNat_zero, Int.toNat_one, Int.toNat_natCast, decide_eq_true_eq, atI_lit, cutW_fromL, cutW_toL, cutW_midL, List.drop, List.take, beq_self_eq_true, elim_ite, bind_ite', ofStr_eq, ofStr_beq, zipW, sL, sLt, sL, hc, fW, ladW]
  | [(s, b, a), (s', b', a')], h, hc =>
    simp only [List.map_cons, List.map_nil, fW] at hc
    simp only [f_law_ladder_of, g_law_ladder_of, e_elim_elim, e_elim_bind, e_bind_elim, e_bind_bind, e_elim_run, e_bind_run, e_kE, e_kB, e_kR, e_elim_pure, e_elim_throw, e_elim_bad, e_ofO_some, e_ofO_none, e_Mpure, e_Mbind, e_pure_bind, e_throw_bind, e_bad_bind, e_pure_run, e_throw_run, e_bad_run, e_exN, e_sq, e_sqK_next, e_sqK_ret, e_sqK_exc, e_sqK_brk, e_sqK_cont, e_nx, e_brkS, e_contS, e_rtN, e_retK, e_rtS, e_dropK, e_drp, e_ifS, e_ifK, e_nextO, e_nextN, e_asg, e_asgK, e_asgX, e_asgXK, e_asgF, e_asgFK, e_setK, e_binK1, e_binK2, e_bin, e_augI, e_forL_nil, e_forL_cons, e_forB, e_forK_next, e_forK_cont, e_forK_brk, e_forK_ret, e_forK_exc, e_forSK, e_forS, e_itemsK, e_itS, e_rng1N, e_rng1L, e_rng1, e_rng2, e_rng2K, e_rng2J, e_zipK, e_zipL, e_zipT, e_itZip, e_enumK, e_itEnum, e_accOf, e_appK2, e_appK, e_appS, e_extK2, e_extK, e_extS, e_objK, e_stK2, e_stK, e_stO, e_gv, e_gb, e_gvK, e_gbK, e_gbA, e_cw, e_un1K, e_un1, e_unFK, e_unF, e_un1MK, e_un1M, e_binMK2, e_binMK1, e_binM, e_eqDF, e_eqF_not, e_eqF_ins, e_lenF_ins, e_lenF_not, e_noX_pure, e_asBK, e_tst, e_truK, e_tru, e_notK, e_notT, e_andK, e_orK, e_andT, e_orT, e_notVK, e_notV, e_andVK, e_orVK, e_andV, e_orV, e_ifEK, e_ifE, e_isN, e_isNK_non, e_isNK_int, e_isNK_tup, e_isNK_lst, e_isNK_str, e_isNK_bl, e_isNK_ins, e_negK, e_neg1, e_chn, e_chnK1, e_chnK2, e_chnK3, e_aNil, e_consK2, e_consK, e_aCons, e_starK2, e_starK1, e_aStar, e_tupK, e_lstK1, e_dTup, e_dLst, e_lstK, e_lstF, e_frzF, e_frz, e_frzO, e_frzOv, e_frzOn, e_xNil, e_xK2, e_xVK, e_xFK, e_xV, e_xF, e_partK, e_pNone, e_pSome, e_slTK3, e_slTK2, e_slTK1, e_slT, e_slLK3, e_slLK3r, e_slLK2, e_slLK1, e_slL, e_revK, e_revL, e_compK, e_compE, e_compL_nil, e_compL_cons, e_cK1, e_cK2, e_cK3, e_cK4, e_own_no, e_own_none, e_own_v, e_own_acc, e_own_obj, e_yesT, e_callK2, e_callK1, e_callF, e_skK2, e_skK1, e_skK0, e_callSK, e_mthK3, e_mthK2, e_mthK1, e_methF, e_kwF, e_mkF, e_insK, e_insM, e_bindW, e_bindN, e_bindStar, e_badX, e_bodyM, e_bodyN, e_endF_ret, e_endF_next, e_endF_exc, e_endN_next, e_endN_exc, e_objOf, e_recv, e_fldW, e_look, e_fldK, e_fldO, e_isIns, e_isIns_int, e_isIns_bl, e_isIns_str, e_isIns_non, e_isIns_tup, e_isIns_lst, e_asBool, e_negBool, e_addI, e_addW, e_subI, e_ltI, e_leI, e_gtI, e_geI, e_mulW, e_modI, e_fdivI, e_powI, e_pow9, e_pow18, e_pow20, e_lenT, e_lenL, e_intI, e_intB, e_absW, e_tupleL, e_tupleT, e_itemsL, e_itemsT, e_ixL, e_ixT, e_allW, e_anyW, e_sumW, e_rsK, e_rsS, e_tryA, e_tryK_exc, e_tryK_next, e_tryK_ret, e_goneK_next, e_goneK_ret, e_try1, e_try1K_exc, e_try1K_next, e_try1K_ret, e_stopX_next, e_stopX_ret, e_clr_nil, e_clr_v, e_clr_no, e_clr_acc, e_own_xcp, e_xfF, e_xfK, List.getElem?_cons_zero, List.getElem?_cons_succ, List.getElem?_nil, List.set_cons_zero, List.set_cons_succ, List.map_cons, List.map_nil, List.length_cons, List.length_nil, List.cons_append, List.nil_append, List.append_nil, List.replicate, List.filterMap_cons, List.filterMap_nil, Option.map_some, Option.map_none, Option.some_or, Option.none_or, Option.bind_some, Option.bind_none, Nat.add_zero, Nat.zero_add, Nat.reduceAdd, Nat.reduceSub, Nat.reduceLT, Nat.reduceLeDiff, Nat.reduceMul, Nat.sub_zero, Nat.sub_self, if_true, if_false, reduceIte, decide_true, decide_false, Bool.not_true, Bool.not_false, Bool.true_and, Bool.and_true, Bool.false_and, Bool.and_false, Bool.true_or, Bool.or_true, Bool.false_or, Bool.or_false, and_true, true_and, and_false, false_and, or_true, true_or, or_false, false_or, not_true, not_false_iff, reduceCtorEq, eq_self, ne_eq, Bool.false_eq_true, Bool.true_eq_false, List.all_cons, List.all_nil, List.any_cons, List.any_nil, List.contains_cons, List.contains_nil, id_eq, startS, startN, sel, toN, toT, tsNil, tsCons, putX, wipeS, asLen, allW, anyW, sumW, asBools, asInts, max2W, min2W, bbT, isiW, tyN, String.reduceEq, String.reduceBEq, String.reduceNe, eqD_int, Bool.false_xor, Bool.true_xor, Bool.xor_false, Bool.xor_true, Int.reduceEq, Int.reduceLT, Int.reduceLE, Int.reduceAdd, Int.reduceSub, Int.reduceMul, Int.reduceNeg, Int.reducePow, Int.reduceToNat, Int.cast_ofNat_Int, Int.toNat_zero, Int.toNat_one, Int.toNat_natCast, decide_eq_true_eq, atI_lit, cutW_fromL, cutW_toL, cutW_midL, List.drop, List.take, beq_self_eq_true, elim_ite, bind_ite', ofStr_eq, ofStr_beq, zipW, sL, sLt, sL, hc, fW, ladW]
def trn (f : Fm) : Fm := (f.1, f.2.2, f.2.1)
theorem LadOk_trn {fs : List Fm} {l : Int} (h : LadOk fs l) : LadOk (fs.map trn) l := by
  match fs, h with
  | [], h => exact h
  | [(s, b, a)], h => simp only [LadOk, List.map, trn] at h ⊢; omega
  | [(s, b, a), (s', b', a')], h => simp only [LadOk, List.map, trn] at h ⊢; omega
def rch (fs : List Fm) (k : Nat) (fw : Bool) : Option Int := fs[k]?.map fun f => if fw then f.2.2 else f.2.1
def fits (fs : List Fm) (k : Nat) (fw : Bool) (d : Int) : Bool := match rch fs k fw with
  | none => true
  | some m => decide (d ≤ m)
theorem need_ok (fs : List Fm) (l : Int) (k : Nat) (h : k ≤ fs.length) : f_Ladder_need [ladW fs l, .int k] [] = pure .non := by
  have h1 : (k : Int) ≤ ((fs.map fW).length : Int) := by rw [List.length_map]; omega
  simp only [f_Ladder_need, g_Ladder_need, e_elim_elim, e_elim_bind, e_bind_elim, e_bind_bind, e_elim_run, e_bind_run, e_kE, e_kB, e_kR, e_elim_pure, e_elim_throw, e_elim_bad, e_ofO_some, e_ofO_none, e_Mpure, e_Mbind, e_pure_bind, e_throw_bind, e_bad_bind, e_pure_run, e_throw_run, e_bad_run, e_exN, e_sq, e_sqK_next, e_sqK_ret, e_sqK_exc, e_sqK_brk, e_sqK_cont, e_nx, e_brkS, e_contS, e_rtN, e_retK, e_rtS, e_dropK, e_drp, e_ifS, e_ifK, e_nextO, e_nextN, e_asg, e_asgK, e_asgX, e_asgXK, e_asgF, e_asgFK, e_setK, e_binK1, e_binK2, e_bin, e_augI, e_forL_nil, e_forL_cons, e_forB, e_forK_next, e_forK_cont, e_forK_brk, e_forK_ret, e_forK_exc, e_forSK, e_forS, e_itemsK, e_itS, e_rng1N, e_rng1L, e_rng1, e_rng2, e_rng2K, e_rng2J, e_zipK, e_zipL, e_zipT, e_itZip, e_enumK, e_itEnum, e_accOf, e_appK2, e_appK, e_appS, e_extK2, e_extK, e_extS, e_objK, e_stK2, e_stK, e_stO, e_gv, e_gb, e_gvK, e_gbK, e_gbA, e_cw, e_un1K, e_un1, e_unFK, e_unF, e_un1MK, e_un1M, e_binMK2, e_binMK1, e_binM, e_eqDF, e_eqF_not, e_eqF_ins, e_lenF_ins, e_lenF_not, e_noX_pure, e_asBK, e_tst, e_truK, e_tru, e_notK, e_notT, e_andK, e_orK, e_andT, e_orT, e_notVK, e_notV, e_andVK, e_orVK, e_andV, e_orV, e_ifEK, e_ifE, e_isN, e_isNK_non, e_isNK_int, e_isNK_tup, e_isNK_lst, e_isNK_str, e_isNK_bl, e_isNK_ins, e_negK, e_neg1, e_chn, e_chnK1, e_chnK2, e_chnK3, e_aNil, e_consK2, e_consK, e_aCons, e_starK2, e_starK1, e_aStar, e_tupK, e_lstK1, e_dTup, e_dLst, e_lstK, e_lstF, e_frzF, e_frz, e_frzO, e_frzOv, e_frzOn, e_xNil, e_xK2, e_xVK, e_xFK, e_xV, e_xF, e_partK, e_pNone, e_pSome, e_slTK3, e_slTK2, e_slTK1, e_slT, e_slLK3, e_slLK3r, e_slLK2, e_slLK1, e_slL, e_revK, e_revL, e_compK, e_compE, e_compL_nil, e_compL_cons, e_cK1, e_cK2, e_cK3, e_cK4, e_own_no, e_own_none, e_own_v, e_own_acc, e_own_obj, e_yesT, e_callK2, e_callK1, e_callF, e_skK2, e_skK1, e_skK0, e_callSK, e_mthK3, e_mthK2, e_mthK1, e_methF, e_kwF, e_mkF, e_insK, e_insM, e_bindW, e_bindN, e_bindStar, e_badX, e_bodyM, e_bodyN, e_endF_ret, e_endF_next, e_endF_exc, e_endN_next, e_endN_exc, e_objOf, e_recv, e_fldW, e_look, e_fldK, e_fldO, e_isIns, e_isIns_int, e_isIns_bl, e_isIns_str, e_isIns_non, e_isIns_tup, e_isIns_lst, e_asBool, e_negBool, e_addI, e_addW, e_subI, e_ltI, e_leI, e_gtI, e_geI, e_mulW, e_modI, e_fdivI, e_powI, e_pow9, e_pow18, e_pow20, e_lenT, e_lenL, e_intI, e_intB, e_absW, e_tupleL, e_tupleT, e_itemsL, e_itemsT, e_ixL, e_ixT, e_allW, e_anyW, e_sumW, e_rsK, e_rsS, e_tryA, e_tryK_exc, e_tryK_next, e_tryK_ret, e_goneK_next, e_goneK_ret, e_try1, e_try1K_exc, e_try1K_next, e_try1K_ret, e_stopX_next, e_stopX_ret, e_clr_nil, e_clr_v, e_clr_no, e_clr_acc, e_own_xcp, e_xfF, e_xfK, List.getElem?_cons_zero, List.getElem?_cons_succ, List.getElem?_nil, List.set_cons_zero, List.set_cons_succ, List.map_cons, List.map_nil, List.length_cons, List.length_nil, List.cons_append, List.nil_append, List.append_nil, List.replicate, List.filterMap_cons, List.filterMap_nil, Option.map_some, Option.map_none, Option.some_or, Option.none_or, Option.bind_some, Option.bind_none, Nat.add_zero, Nat.zero_add, Nat.reduceAdd, Nat.reduceSub, Nat.reduceLT, Nat.reduceLeDiff, Nat.reduceMul, Nat.sub_zero, Nat.sub_self, if_true, if_false, reduceIte, decide_true, decide_false, Bool.not_true, Bool.not_false, Bool.true_and, Bool.and_true, Bool.false_and, Bool.and_false, Bool.true_or, Bool.or_true, Bool.false_or, Bool.or_false, and_true, true_and, and_false, false_and, or_true, true_or, or_false, false_or, not_true, not_false_iff, reduceCtorEq, eq_self, ne_eq, Bool.false_eq_true, Bool.true_eq_false, List.all_cons, List.all_nil, List.any_cons, List.any_nil, List.contains_cons, List.contains_nil, id_eq, startS, startN, sel, toN, toT, tsNil, tsCons, putX, wipeS, asLen, allW, anyW, sumW, asBools, asInts, max2W, min2W, bbT, isiW, tyN, String.reduceEq, String.reduceBEq, String.reduceNe, eqD_int, Bool.false_xor, Bool.true_xor, Bool.xor_false, Bool.xor_true, Int.reduceEq, Int.reduceLT, Int.reduceLE, Int.reduceAdd, Int.reduceSub, Int.reduceMul, Int.reduceNeg, Int.reducePow, Int.reduceToNat, Int.cast_ofNat_Int, Int.toNat_zero, Int.toNat_one, Int.toNat_natCast, decide_eq_true_eq, atI_lit, cutW_fromL, cutW_toL, cutW_midL, List.drop, List.take, beq_self_eq_true, elim_ite, bind_ite', ofStr_eq, ofStr_beq, zipW, sL, sLt, ladW, Int.natCast_nonneg, h1]
theorem need_bad (fs : List Fm) (l k : Int) (h : k < 0 ∨ (fs.length : Int) < k) : f_Ladder_need [ladW fs l, .int k] [] = M.throw ⟨25, ["form"], [.int k]⟩ := by
  by_cases h0 : 0 ≤ k
  · have h1 : ¬ k ≤ ((fs.map fW).length : Int) := by rw [List.length_map]; omega
    simp only [f_Ladder_need, g_Ladder_need, e_elim_elim, e_elim_bind, e_bind_elim, e_bind_bind, e_elim_run, e_bind_run, e_kE, e_kB, e_kR, e_elim_pure, e_elim_throw, e_elim_bad, e_ofO_some, e_ofO_none, e_Mpure, e_Mbind, e_pure_bind, e_throw_bind, e_bad_bind, e_pure_run, e_throw_run, e_bad_run, e_exN, e_sq, e_sqK_next, e_sqK_ret, e_sqK_exc, e_sqK_brk, e_sqK_cont, e_nx, e_brkS, e_contS, e_rtN, e_retK, e_rtS, e_dropK, e_drp, e_ifS, e_ifK, e_nextO, e_nextN, e_asg, e_asgK, e_asgX, e_asgXK, e_asgF, e_asgFK, e_setK, e_binK1, e_binK2, e_bin, e_augI, e_forL_nil, e_forL_cons, e_forB, e_forK_next, e_forK_cont, e_forK_brk, e_forK_ret, e_forK_exc, e_forSK, e_forS, e_itemsK, e_itS, e_rng1N, e_rng1L, e_rng1, e_rng2, e_rng2K, e_rng2J, e_zipK, e_zipL, e_zipT, e_itZip, e_enumK, e_itEnum, e_accOf, e_appK2, e_appK, e_appS, e_extK2, e_extK, e_extS, e_objK, e_stK2, e_stK, e_stO, e_gv, e_gb, e_gvK, e_gbK, e_gbA, e_cw, e_un1K, e_un1, e_unFK, e_unF, e_un1MK, e_un1M, e_binMK2, e_binMK1, e_binM, e_eqDF, e_eqF_not, e_eqF_ins, e_lenF_ins, e_lenF_not, e_noX_pure, e_asBK, e_tst, e_truK, e_tru, e_notK, e_notT, e_andK, e_orK, e_andT, e_orT, e_notVK, e_notV, e_andVK, e_orVK, e_andV, e_orV, e_ifEK, e_ifE, e_isN, e_isNK_non, e_isNK_int, e_isNK_tup, e_isNK_lst, e_isNK_str, e_isNK_bl, e_isNK_ins, e_negK, e_neg1, e_chn, e_chnK1, e_chnK2, e_chnK3, e_aNil, e_consK2, e_consK, e_aCons, e_starK2, e_starK1, e_aStar, e_tupK, e_lstK1, e_dTup, e_dLst, e_lstK, e_lstF, e_frzF, e_frz, e_frzO, e_frzOv, e_frzOn, e_xNil, e_xK2, e_xVK, e_xFK, e_xV, e_xF, e_partK, e_pNone, e_pSome, e_slTK3, e_slTK2, e_slTK1, e_slT, e_slLK3, e_slLK3r, e_slLK2, e_slLK1, e_slL, e_revK, e_revL, e_compK, e_compE, e_compL_nil, e_compL_cons, e_cK1, e_cK2, e_cK3, e_cK4, e_own_no, e_own_none, e_own_v, e_own_acc, e_own_obj, e_yesT, e_callK2, e_callK1, e_callF, e_skK2, e_skK1, e_skK0, e_callSK, e_mthK3, e_mthK2, e_mthK1, e_methF, e_kwF, e_mkF, e_insK, e_insM, e_bindW, e_bindN, e_bindStar, e_badX, e_bodyM, e_bodyN, e_endF_ret, e_endF_next, e_endF_exc, e_endN_next, e_endN_exc, e_objOf, e_recv, e_fldW, e_look, e_fldK, e_fldO, e_isIns, e_isIns_int, e_isIns_bl, e_isIns_str, e_isIns_non, e_isIns_tup, e_isIns_lst, e_asBool, e_negBool, e_addI, e_addW, e_subI, e_ltI, e_leI, e_gtI, e_geI, e_mulW, e_modI, e_fdivI, e_powI, e_pow9, e_pow18, e_pow20, e_lenT, e_lenL, e_intI, e_intB, e_absW, e_tupleL, e_tupleT, e_itemsL, e_itemsT, e_ixL, e_ixT, e_allW, e_anyW, e_sumW, e_rsK, e_rsS, e_tryA, e_tryK_exc, e_tryK_next, e_tryK_ret, e_goneK_next, e_goneK_ret, e_try1, e_try1K_exc, e_try1K_next, e_try1K_ret, e_stopX_next, e_stopX_ret, e_clr_nil, e_clr_v, e_clr_no, e_clr_acc, e_own_xcp, e_xfF, e_xfK, List.getElem?_cons_zero, List.getElem?_cons_succ, List.getElem?_nil, List.set_cons_zero, List.set_cons_succ, List.map_cons, List.map_nil, List.length_cons, List.length_nil, List.cons_append, List.nil_append, List.append_nil, List.replicate, List.filterMap_cons, List.filterMap_nil, Option.map_some, Option.map_none, Option.some_or, Option.none_or, Option.bind_some, Option.bind_none, Nat.add_zero, Nat.zero_add, Nat.reduceAdd, Nat.reduceSub, Nat.reduceLT, Nat.reduceLeDiff, Nat.reduceMul, Nat.sub_zero, Nat.sub_self, if_true, if_false, reduceIte, decide_true, decide_false, Bool.not_true, Bool.not_false, Bool.true_and, Bool.and_true, Bool.false_and, Bool.and_false, Bool.true_or, Bool.or_true, Bool.false_or, Bool.or_false, and_true, true_and, and_false, false_and, or_true, true_or, or_false, false_or, not_true, not_false_iff, reduceCtorEq, eq_self, ne_eq, Bool.false_eq_true, Bool.true_eq_false, List.all_cons, List.all_nil, List.any_cons, List.any_nil, List.contains_cons, List.contains_nil, id_eq, startS, startN, sel, toN, toT, tsNil, tsCons, putX, wipeS, asLen, allW, anyW, sumW, asBools, asInts, max2W, min2W, bbT, isiW, tyN, String.reduceEq, String.reduceBEq, String.reduceNe, eqD_int, Bool.false_xor, Bool.true_xor, Bool.xor_false, Bool.xor_true, Int.reduceEq, Int.reduceLT, Int.reduceLE, Int.reduceAdd, Int.reduceSub, Int.reduceMul, Int.reduceNeg, Int.reducePow, Int.reduceToNat, Int.cast_ofNat_Int, Int.toNat_zero, Int.toNat_one, Int.toNat_natCast, decide_eq_true_eq, atI_lit, cutW_fromL, cutW_toL, cutW_midL, List.drop, List.take, beq_self_eq_true, elim_ite, bind_ite', ofStr_eq, ofStr_beq, zipW, sL, sLt, lad_forms, h0, h1]
  · simp only [f_Ladder_need, g_Ladder_need, e_elim_elim, e_elim_bind, e_bind_elim, e_bind_bind, e_elim_run, e_bind_run, e_kE, e_kB, e_kR, e_elim_pure, e_elim_throw, e_elim_bad, e_ofO_some, e_ofO_none, e_Mpure, e_Mbind, e_pure_bind, e_throw_bind, e_bad_bind, e_pure_run, e_throw_run, e_bad_run, e_exN, e_sq, e_sqK_next, e_sqK_ret, e_sqK_exc, e_sqK_brk, e_sqK_cont, e_nx, e_brkS, e_contS, e_rtN, e_retK, e_rtS, e_dropK, e_drp, e_ifS, e_ifK, e_nextO, e_nextN, e_asg, e_asgK, e_asgX, e_asgXK, e_asgF, e_asgFK, e_setK, e_binK1, e_binK2, e_bin, e_augI, e_forL_nil, e_forL_cons, e_forB, e_forK_next, e_forK_cont, e_forK_brk, e_forK_ret, e_forK_exc, e_forSK, e_forS, e_itemsK, e_itS, e_rng1N, e_rng1L, e_rng1, e_rng2, e_rng2K, e_rng2J, e_zipK, e_zipL, e_zipT, e_itZip, e_enumK, e_itEnum, e_accOf, e_appK2, e_appK, e_appS, e_extK2, e_extK, e_extS, e_objK, e_stK2, e_stK, e_stO, e_gv, e_gb, e_gvK, e_gbK, e_gbA, e_cw, e_un1K, e_un1, e_unFK, e_unF, e_un1MK, e_un1M, e_binMK2, e_binMK1, e_binM, e_eqDF, e_eqF_not, e_eqF_ins, e_lenF_ins, e_lenF_not, e_noX_pure, e_asBK, e_tst, e_truK, e_tru, e_notK, e_notT, e_andK, e_orK, e_andT, e_orT, e_notVK, e_notV, e_andVK, e_orVK, e_andV, e_orV, e_ifEK, e_ifE, e_isN, e_isNK_non, e_isNK_int, e_isNK_tup, e_isNK_lst, e_isNK_str, e_isNK_bl, e_isNK_ins, e_negK, e_neg1, e_chn, e_chnK1, e_chnK2, e_chnK3, e_aNil, e_consK2, e_consK, e_aCons, e_starK2, e_starK1, e_aStar, e_tupK, e_lstK1, e_dTup, e_dLst, e_lstK, e_lstF, e_frzF, e_frz, e_frzO, e_frzOv, e_frzOn, e_xNil, e_xK2, e_xVK, e_xFK, e_xV, e_xF, e_partK, e_pNone, e_pSome, e_slTK3, e_slTK2, e_slTK1, e_slT, e_slLK3, e_slLK3r, e_slLK2, e_slLK1, e_slL, e_revK, e_revL, e_compK, e_compE, e_compL_nil, e_compL_cons, e_cK1, e_cK2, e_cK3, e_cK4, e_own_no, e_own_none, e_own_v, e_own_acc, e_own_obj, e_yesT, e_callK2, e_callK1, e_callF, e_skK2, e_skK1, e_skK0, e_callSK, e_mthK3, e_mthK2, e_mthK1, e_methF, e_kwF, e_mkF, e_insK, e_insM, e_bindW, e_bindN, e_bindStar, e_badX, e_bodyM, e_bodyN, e_endF_ret, e_endF_next, e_endF_exc, e_endN_next, e_endN_exc, e_objOf, e_recv, e_fldW, e_look, e_fldK, e_fldO, e_isIns, e_isIns_int, e_isIns_bl, e_isIns_str, e_isIns_non, e_isIns_tup, e_isIns_lst, e_asBool, e_negBool, e_addI, e_addW, e_subI, e_ltI, e_leI, e_gtI, e_geI, e_mulW, e_modI, e_fdivI, e_powI, e_pow9, e_pow18, e_pow20, e_lenT, e_lenL, e_intI, e_intB, e_absW, e_tupleL, e_tupleT, e_itemsL, e_itemsT, e_ixL, e_ixT, e_allW, e_anyW, e_sumW, e_rsK, e_rsS, e_tryA, e_tryK_exc, e_tryK_next, e_tryK_ret, e_goneK_next, e_goneK_ret, e_try1, e_try1K_exc, e_try1K_next, e_try1K_ret, e_stopX_next, e_stopX_ret, e_clr_nil, e_clr_v, e_clr_no, e_clr_acc, e_own_xcp, e_xfF, e_xfK, List.getElem?_cons_zero, List.getElem?_cons_succ, List.getElem?_nil, List.set_cons_zero, List.set_cons_succ, List.map_cons, List.map_nil, List.length_cons, List.length_nil, List.cons_append, List.nil_append, List.append_nil, List.replicate, List.filterMap_cons, List.filterMap_nil, Option.map_some, Option.map_none, Option.some_or, Option.none_or, Option.bind_some, Option.bind_none, Nat.add_zero, Nat.zero_add, Nat.reduceAdd, Nat.reduceSub, Nat.reduceLT, Nat.reduceLeDiff, Nat.reduceMul, Nat.sub_zero, Nat.sub_self, if_true, if_false, reduceIte, decide_true, decide_false, Bool.not_true, Bool.not_false, Bool.true_and, Bool.and_true, Bool.false_and, Bool.and_false, Bool.true_or, Bool.or_true, Bool.false_or, Bool.or_false, and_true, true_and, and_false, false_and, or_true, true_or, or_false, false_or, not_true, not_false_iff, reduceCtorEq, eq_self, ne_eq, Bool.false_eq_true, Bool.true_eq_false, List.all_cons, List.all_nil, List.any_cons, List.any_nil, List.contains_cons, List.contains_nil, id_eq, startS, startN, sel, toN, toT, tsNil, tsCons, putX, wipeS, asLen, allW, anyW, sumW, asBools, asInts, max2W, min2W, bbT, isiW, tyN, String.reduceEq, String.reduceBEq, String.reduceNe, eqD_int, Bool.false_xor, Bool.true_xor, Bool.xor_false, Bool.xor_true, Int.reduceEq, Int.reduceLT, Int.reduceLE, Int.reduceAdd, Int.reduceSub, Int.reduceMul, Int.reduceNeg, Int.reducePow, Int.reduceToNat, Int.cast_ofNat_Int, Int.toNat_zero, Int.toNat_one, Int.toNat_natCast, decide_eq_true_eq, atI_lit, cutW_fromL, cutW_toL, cutW_midL, List.drop, List.take, beq_self_eq_true, elim_ite, bind_ite', ofStr_eq, ofStr_beq, zipW, sL, sLt, lad_forms, h0]
theorem reach_ok (fs : List Fm) (l : Int) (k : Nat) (fw : Bool) (h : k ≤ fs.length) : f_Ladder_reach__forward [ladW fs l, .int k] [.bl fw] = pure (match rch fs k fw with | none => .non | some m => .int m) := by
  have h0 := need_ok fs l k h
  simp only [ladW] at h0
  by_cases e : k = fs.length
  · subst e
    simp only [f_Ladder_reach__forward, g_Ladder_reach, e_elim_elim, e_elim_bind, e_bind_elim, e_bind_bind, e_elim_run, e_bind_run, e_kE, e_kB, e_kR, e_elim_pure, e_elim_throw, e_elim_bad, e_ofO_some, e_ofO_none, e_Mpure, e_Mbind, e_pure_bind, e_throw_bind, e_bad_bind, e_pure_run, e_throw_run, e_bad_run, e_exN, e_sq, e_sqK_next, e_sqK_ret, e_sqK_exc, e_sqK_brk, e_sqK_cont, e_nx, e_brkS, e_contS, e_rtN, e_retK, e_rtS, e_dropK, e_drp, e_ifS, e_ifK, e_nextO, e_nextN, e_asg, e_asgK, e_asgX, e_asgXK, e_asgF, e_asgFK, e_setK, e_binK1, e_binK2, e_bin, e_augI, e_forL_nil, e_forL_cons, e_forB, e_forK_next, e_forK_cont, e_forK_brk, e_forK_ret, e_forK_exc, e_forSK, e_forS, e_itemsK, e_itS, e_rng1N, e_rng1L, e_rng1, e_rng2, e_rng2K, e_rng2J, e_zipK, e_zipL, e_zipT, e_itZip, e_enumK, e_itEnum, e_accOf, e_appK2, e_appK, e_appS, e_extK2, e_extK, e_extS, e_objK, e_stK2, e_stK, e_stO, e_gv, e_gb, e_gvK, e_gbK, e_gbA, e_cw, e_un1K, e_un1, e_unFK, e_unF, e_un1MK, e_un1M, e_binMK2, e_binMK1, e_binM, e_eqDF, e_eqF_not, e_eqF_ins, e_lenF_ins, e_lenF_not, e_noX_pure, e_asBK, e_tst, e_truK, e_tru, e_notK, e_notT, e_andK, e_orK, e_andT, e_orT, e_notVK, e_notV, e_andVK, e_orVK, e_andV, e_orV, e_ifEK, e_ifE, e_isN, e_isNK_non, e_isNK_int, e_isNK_tup, e_isNK_lst, e_isNK_str, e_isNK_bl, e_isNK_ins, e_negK, e_neg1, e_chn, e_chnK1, e_chnK2, e_chnK3, e_aNil, e_consK2, e_consK, e_aCons, e_starK2, e_starK1, e_aStar, e_tupK, e_lstK1, e_dTup, e_dLst, e_lstK, e_lstF, e_frzF, e_frz, e_frzO, e_frzOv, e_frzOn, e_xNil, e_xK2, e_xVK, e_xFK, e_xV, e_xF, e_partK, e_pNone, e_pSome, e_slTK3, e_slTK2, e_slTK1, e_slT, e_slLK3, e_slLK3r, e_slLK2, e_slLK1, e_slL, e_revK, e_revL, e_compK, e_compE, e_compL_nil, e_compL_cons, e_cK1, e_cK2, e_cK3, e_cK4, e_own_no, e_own_none, e_own_v, e_own_acc, e_own_obj, e_yesT, e_callK2, e_callK1, e_callF, e_skK2, e_skK1, e_skK0, e_callSK, e_mthK3, e_mthK2, e_mthK1, e_methF, e_kwF, e_mkF, e_insK, e_insM, e_bindW, e_bindN, e_bindStar, e_badX, e_bodyM, e_bodyN, e_endF_ret, e_endF_next, e_endF_exc, e_endN_next, e_endN_exc, e_objOf, e_recv, e_fldW, e_look, e_fldK, e_fldO, e_isIns, e_isIns_int, e_isIns_bl, e_isIns_str, e_isIns_non, e_isIns_tup, e_isIns_lst, e_asBool, e_negBool, e_addI, e_addW, e_subI, e_ltI, e_leI, e_gtI, e_geI, e_mulW, e_modI, e_fdivI, e_powI, e_pow9, e_pow18, e_pow20, e_lenT, e_lenL, e_intI, e_intB, e_absW, e_tupleL, e_tupleT, e_itemsL, e_itemsT, e_ixL, e_ixT, e_allW, e_anyW, e_sumW, e_rsK, e_rsS, e_tryA, e_tryK_exc, e_tryK_next, e_tryK_ret, e_goneK_next, e_goneK_ret, e_try1, e_try1K_exc, e_try1K_next, e_try1K_ret, e_stopX_next, e_stopX_ret, e_clr_nil, e_clr_v, e_clr_no, e_clr_acc, e_own_xcp, e_xfF, e_xfK, List.getElem?_cons_zero, List.getElem?_cons_succ, List.getElem?_nil, List.set_cons_zero, List.set_cons_succ, List.map_cons, List.map_nil, List.length_cons, List.length_nil, List.cons_append, List.nil_append, List.append_nil, List.replicate, List.filterMap_cons, List.filterMap_nil, Option.map_some, Option.map_none, Option.some_or, Option.none_or, Option.bind_some, Option.bind_none, Nat.add_zero, Nat.zero_add, Nat.reduceAdd, Nat.reduceSub, Nat.reduceLT, Nat.reduceLeDiff, Nat.reduceMul, Nat.sub_zero, Nat.sub_self, if_true, if_false, reduceIte, decide_true, decide_false, Bool.not_true, Bool.not_false, Bool.true_and, Bool.and_true, Bool.false_and, Bool.and_false, Bool.true_or, Bool.or_true, Bool.false_or, Bool.or_false, and_true, true_and, and_false, false_and, or_true, true_or, or_false, false_or, not_true, not_false_iff, reduceCtorEq, eq_self, ne_eq, Bool.false_eq_true, Bool.true_eq_false, List.all_cons, List.all_nil, List.any_cons, List.any_nil, List.contains_cons, List.contains_nil, id_eq, startS, startN, sel, toN, toT, tsNil, tsCons, putX, wipeS, asLen, allW, anyW, sumW, asBools, asInts, max2W, min2W, bbT, isiW, tyN, String.reduceEq, String.reduceBEq, String.reduceNe, eqD_int, Bool.false_xor, Bool.true_xor, Bool.xor_false, Bool.xor_true, Int.reduceEq, Int.reduceLT, Int.reduceLE, Int.reduceAdd, Int.reduceSub, Int.reduceMul, Int.reduceNeg, Int.reducePow, Int.reduceToNat, Int.cast_ofNat_Int, Int.toNat_zero, Int.toNat_one, Int.toNat_natCast, decide_eq_true_eq, atI_lit, cutW_fromL, cutW_toL, cutW_midL, List.drop, List.take, beq_self_eq_true, elim_ite, bind_ite', ofStr_eq, ofStr_beq, zipW, sL, sLt, ladW, h0, List.length_map]
    simp [rch]
  · have hk : k < fs.length := by omega
    have e1 : ¬ (k : Int) = (fs.length : Int) := by omega
    simp only [f_Ladder_reach__forward, g_Ladder_reach, e_elim_elim, e_elim_bind, e_bind_elim, e_bind_bind, e_elim_run, e_bind_run, e_kE, e_kB, e_kR, e_elim_pure, e_elim_throw, e_elim_bad, e_ofO_some, e_ofO_none, e_Mpure, e_Mbind, e_pure_bind, e_throw_bind, e_bad_bind, e_pure_run, e_throw_run, e_bad_run, e_exN, e_sq, e_sqK_next, e_sqK_ret, e_sqK_exc, e_sqK_brk, e_sqK_cont, e_nx, e_brkS, e_contS, e_rtN, e_retK, e_rtS, e_dropK, e_drp, e_ifS, e_ifK, e_nextO, e_nextN, e_asg, e_asgK, e_asgX, e_asgXK, e_asgF, e_asgFK, e_setK, e_binK1, e_binK2, e_bin, e_augI, e_forL_nil, e_forL_cons, e_forB, e_forK_next, e_forK_cont, e_forK_brk, e_forK_ret, e_forK_exc, e_forSK, e_forS, e_itemsK, e_itS, e_rng1N, e_rng1L, e_rng1, e_rng2, e_rng2K, e_rng2J, e_zipK, e_zipL, e_zipT, e_itZip, e_enumK, e_itEnum, e_accOf, e_appK2, e_appK, e_appS, e_extK2, e_extK, e_extS, e_objK, e_stK2, e_stK, e_stO, e_gv, e_gb, e_gvK, e_gbK, e_gbA, e_cw, e_un1K, e_un1, e_unFK, e_unF, e_un1MK, e_un1M, e_binMK2, e_binMK1, e_binM, e_eqDF, e_eqF_not, e_eqF_ins, e_lenF_ins, e_lenF_not, e_noX_pure, e_asBK, e_tst, e_truK, e_tru, e_notK, e_notT, e_andK, e_orK, e_andT, e_orT, e_notVK, e_notV, e_andVK, e_orVK, e_andV, e_orV, e_ifEK, e_ifE, e_isN, e_isNK_non, e_isNK_int, e_isNK_tup, e_isNK_lst, e_isNK_str, e_isNK_bl, e_isNK_ins, e_negK, e_neg1, e_chn, e_chnK1, e_chnK2, e_chnK3, e_aNil, e_consK2, e_consK, e_aCons, e_starK2, e_starK1, e_aStar, e_tupK, e_lstK1, e_dTup, e_dLst, e_lstK, e_lstF, e_frzF, e_frz, e_frzO, e_frzOv, e_frzOn, e_xNil, e_xK2, e_xVK, e_xFK, e_xV, e_xF, e_partK, e_pNone, e_pSome, e_slTK3, e_slTK2, e_slTK1, e_slT, e_slLK3, e_slLK3r, e_slLK2, e_slLK1, e_slL, e_revK, e_revL, e_compK, e_compE, e_compL_nil, e_compL_cons, e_cK1, e_cK2, e_cK3, e_cK4, e_own_no, e_own_none, e_own_v, e_own_acc, e_own_obj, e_yesT, e_callK2, e_callK1, e_callF, e_skK2, e_skK1, e_skK0, e_callSK, e_mthK3, e_mthK2, e_mthK1, e_methF, e_kwF, e_mkF, e_insK, e_insM, e_bindW, e_bindN, e_bindStar, e_badX, e_bodyM, e_bodyN, e_endF_ret, e_endF_next, e_endF_exc, e_endN_next, e_endN_exc, e_objOf, e_recv, e_fldW, e_look, e_fldK, e_fldO, e_isIns, e_isIns_int, e_isIns_bl, e_isIns_str, e_isIns_non, e_isIns_tup, e_isIns_lst, e_asBool, e_negBool, e_addI, e_addW, e_subI, e_ltI, e_leI, e_gtI, e_geI, e_mulW, e_modI, e_fdivI, e_powI, e_pow9, e_pow18, e_pow20, e_lenT, e_lenL, e_intI, e_intB, e_absW, e_tupleL, e_tupleT, e_itemsL, e_itemsT, e_ixL, e_ixT, e_allW, e_anyW, e_sumW, e_rsK, e_rsS, e_tryA, e_tryK_exc, e_tryK_next, e_tryK_ret, e_goneK_next, e_goneK_ret, e_try1, e_try1K_exc, e_try1K_next, e_try1K_ret, e_stopX_next, e_stopX_ret, e_clr_nil, e_clr_v, e_clr_no, e_clr_acc, e_own_xcp, e_xfF, e_xfK, List.getElem?_cons_zero, List.getElem?_cons_succ, List.getElem?_nil, List.set_cons_zero, List.set_cons_succ, List.map_cons, List.map_nil, List.length_cons, List.length_nil, List.cons_append, List.nil_append, List.append_nil, List.replicate, List.filterMap_cons, List.filterMap_nil, Option.map_some, Option.map_none, Option.some_or, Option.none_or, Option.bind_some, Option.bind_none, Nat.add_zero, Nat.zero_add, Nat.reduceAdd, Nat.reduceSub, Nat.reduceLT, Nat.reduceLeDiff, Nat.reduceMul, Nat.sub_zero, Nat.sub_self, if_true, if_false, reduceIte, decide_true, decide_false, Bool.not_true, Bool.not_false, Bool.true_and, Bool.and_true, Bool.false_and, Bool.and_false, Bool.true_or, Bool.or_true, Bool.false_or, Bool.or_false, and_true, true_and, and_false, false_and, or_true, true_or, or_false, false_or, not_true, not_false_iff, reduceCtorEq, eq_self, ne_eq, Bool.false_eq_true, Bool.true_eq_false, List.all_cons, List.all_nil, List.any_cons, List.any_nil, List.contains_cons, List.contains_nil, id_eq, startS, startN, sel, toN, toT, tsNil, tsCons, putX, wipeS, asLen, allW, anyW, sumW, asBools, asInts, max2W, min2W, bbT, isiW, tyN, String.reduceEq, String.reduceBEq, String.reduceNe, eqD_int, Bool.false_xor, Bool.true_xor, Bool.xor_false, Bool.xor_true, Int.reduceEq, Int.reduceLT, Int.reduceLE, Int.reduceAdd, Int.reduceSub, Int.reduceMul, Int.reduceNeg, Int.reducePow, Int.reduceToNat, Int.cast_ofNat_Int, Int.toNat_zero, Int.toNat_one, Int.toNat_natCast, decide_eq_true_eq, atI_lit, cutW_fromL, cutW_toL, cutW_midL, List.drop, List.take, beq_self_eq_true, elim_ite, bind_ite', ofStr_eq, ofStr_beq, zipW, sL, sLt, ladW, h0, List.length_map, e1, atI_nat, List.getElem?_map, List.getElem?_eq_getElem hk, fW, rch]
    cases fw <;> simp only [e_elim_elim, e_elim_bind, e_bind_elim, e_bind_bind, e_elim_run, e_bind_run, e_kE, e_kB, e_kR, e_elim_pure, e_elim_throw, e_elim_bad, e_ofO_some, e_ofO_none, e_Mpure, e_Mbind, e_pure_bind, e_throw_bind, e_bad_bind, e_pure_run, e_throw_run, e_bad_run, e_exN, e_sq, e_sqK_next, e_sqK_ret, e_sqK_exc, e_sqK_brk, e_sqK_cont, e_nx, e_brkS, e_contS, e_rtN, e_retK, e_rtS, e_dropK, e_drp, e_ifS, e_ifK, e_nextO, e_nextN, e_asg, e_asgK, e_asgX, e_asgXK, e_asgF, e_asgFK, e_setK, e_binK1, e_binK2, e_bin, e_augI, e_forL_nil, e_forL_cons, e_forB, e_forK_next, e_forK_cont, e_forK_brk, e_forK_ret, e_forK_exc, e_forSK, e_forS, e_itemsK, e_itS, e_rng1N, e_rng1L, e_rng1, e_rng2, e_rng2K, e_rng2J, e_zipK, e_zipL, e_zipT, e_itZip, e_enumK, e_itEnum, e_accOf, e_appK2, e_appK, e_appS, e_extK2, e_extK, e_extS, e_objK, e_stK2, e_stK, e_stO, e_gv, e_gb, e_gvK, e_gbK, e_gbA, e_cw, e_un1K, e_un1, e_unFK, e_unF, e_un1MK, e_un1M, e_binMK2, e_binMK1, e_binM, e_eqDF, e_eqF_not, e_eqF_ins, e_lenF_ins, e_lenF_not, e_noX_pure, e_asBK, e_tst, e_truK, e_tru, e_notK, e_notT, e_andK, e_orK, e_andT, e_orT, e_notVK, e_notV, e_andVK, e_orVK, e_andV, e_orV, e_ifEK, e_ifE, e_isN, e_isNK_non, e_isNK_int, e_isNK_tup, e_isNK_lst, e_isNK_str, e_isNK_bl, e_isNK_ins, e_negK, e_neg1, e_chn, e_chnK1, e_chnK2, e_chnK3, e_aNil, e_consK2, e_consK, e_aCons, e_starK2, e_starK1, e_aStar, e_tupK, e_lstK1, e_dTup, e_dLst, e_lstK, e_lstF, e_frzF, e_frz, e_frzO, e_frzOv, e_frzOn, e_xNil, e_xK2, e_xVK, e_xFK, e_xV, e_xF, e_partK, e_pNone, e_pSome, e_slTK3, e_slTK2, e_slTK1, e_slT, e_slLK3, e_slLK3r, e_slLK2, e_slLK1, e_slL, e_revK, e_revL, e_compK, e_compE, e_compL_nil, e_compL_cons, e_cK1, e_cK2, e_cK3, e_cK4, e_own_no, e_own_none, e_own_v, e_own_acc, e_own_obj, e_yesT, e_callK2, e_callK1, e_callF, e_skK2, e_skK1, e_skK0, e_callSK, e_mthK3, e_mthK2, e_mthK1, e_methF, e_kwF, e_mkF, e_insK, e_insM, e_bindW, e_bindN, e_bindStar, e_badX, e_bodyM, e_bodyN, e_endF_ret, e_endF_next, e_endF_exc, e_endN_next, e_endN_exc, e_objOf, e_recv, e_fldW, e_look, e_fldK, e_fldO, e_isIns, e_isIns_int, e_isIns_bl, e_isIns_str, e_isIns_non, e_isIns_tup, e_isIns_lst, e_asBool, e_negBool, e_addI, e_addW, e_subI, e_ltI, e_leI, e_gtI, e_geI, e_mulW, e_modI, e_fdivI, e_powI, e_pow9, e_pow18, e_pow20, e_lenT, e_lenL, e_intI, e_intB, e_absW, e_tupleL, e_tupleT, e_itemsL, e_itemsT, e_ixL, e_ixT, e_allW, e_anyW, e_sumW, e_rsK, e_rsS, e_tryA, e_tryK_exc, e_tryK_next, e_tryK_ret, e_goneK_next, e_goneK_ret, e_try1, e_try1K_exc, e_try1K_next, e_try1K_ret, e_stopX_next, e_stopX_ret, e_clr_nil, e_clr_v, e_clr_no, e_clr_acc, e_own_xcp, e_xfF, e_xfK, List.getElem?_cons_zero, List.getElem?_cons_succ, List.getElem?_nil, List.set_cons_zero, List.set_cons_succ, List.map_cons, List.map_nil, List.length_cons, List.length_nil, List.cons_append, List.nil_append, List.append_nil, List.replicate, List.filterMap_cons, List.filterMap_nil, Option.map_some, Option.map_none, Option.some_or, Option.none_or, Option.bind_some, Option.bind_none, Nat.add_zero, Nat.zero_add, Nat.reduceAdd, Nat.reduceSub, Nat.reduceLT, Nat.reduceLeDiff, Nat.reduceMul, Nat.sub_zero, Nat.sub_self, if_true, if_false, reduceIte, decide_true, decide_false, Bool.not_true, Bool.not_false, Bool.true_and, Bool.and_true, Bool.false_and, Bool.and_false, Bool.true_or, Bool.or_true, Bool.false_or, Bool.or_false, and_true, true_and, and_false, false_and, or_true, true_or, or_false, false_or, not_true, not_false_iff, reduceCtorEq, eq_self, ne_eq, Bool.false_eq_true, Bool.true_eq_false, List.all_cons, List.all_nil, List.any_cons, List.any_nil, List.contains_cons, List.contains_nil, id_eq, startS, startN, sel, toN, toT, tsNil, tsCons, putX, wipeS, asLen, allW, anyW, sumW, asBools, asInts, max2W, min2W, bbT, isiW, tyN, String.reduceEq, String.reduceBEq, String.reduceNe, eqD_int, Bool.false_xor, Bool.true_xor, Bool.xor_false, Bool.xor_true, Int.reduceEq, Int.reduceLT, Int.reduceLE, Int.reduceAdd, Int.reduceSub, Int.reduceMul, Int.reduceNeg, Int.reducePow, Int.reduceToNat, Int.cast_ofNat_Int, Int.toNat_zero, Int.toNat_one, Int.toNat_natCast, decide_eq_true_eq, atI_lit, cutW_fromL, cutW_toL, cutW_midL, List.drop, List.take, beq_self_eq_true, elim_ite, bind_ite', ofStr_eq, ofStr_beq, zipW, sL, sLt]
theorem reaches_ok (fs : List Fm) (l : Int) (k : Nat) (fw : Bool) (d : Int) (h : k ≤ fs.length) : f_Ladder_reaches__forward [ladW fs l, .int k, .int d] [.bl fw] = pure (.bl (fits fs k fw d)) := by
  have h0 := reach_ok fs l k fw h
  simp only [ladW] at h0
  simp only [f_Ladder_reaches__forward, g_Ladder_reaches, e_elim_elim, e_elim_bind, e_bind_elim, e_bind_bind, e_elim_run, e_bind_run, e_kE, e_kB, e_kR, e_elim_pure, e_elim_throw, e_elim_bad, e_ofO_some, e_ofO_none, e_Mpure, e_Mbind, e_pure_bind, e_throw_bind, e_bad_bind, e_pure_run, e_throw_run, e_bad_run, e_exN, e_sq, e_sqK_next, e_sqK_ret, e_sqK_exc, e_sqK_brk, e_sqK_cont, e_nx, e_brkS, e_contS, e_rtN, e_retK, e_rtS, e_dropK, e_drp, e_ifS, e_ifK, e_nextO, e_nextN, e_asg, e_asgK, e_asgX, e_asgXK, e_asgF, e_asgFK, e_setK, e_binK1, e_binK2, e_bin, e_augI, e_forL_nil, e_forL_cons, e_forB, e_forK_next, e_forK_cont, e_forK_brk, e_forK_ret, e_forK_exc, e_forSK, e_forS, e_itemsK, e_itS, e_rng1N, e_rng1L, e_rng1, e_rng2, e_rng2K, e_rng2J, e_zipK, e_zipL, e_zipT, e_itZip, e_enumK, e_itEnum, e_accOf, e_appK2, e_appK, e_appS, e_extK2, e_extK, e_extS, e_objK, e_stK2, e_stK, e_stO, e_gv, e_gb, e_gvK, e_gbK, e_gbA, e_cw, e_un1K, e_un1, e_unFK, e_unF, e_un1MK, e_un1M, e_binMK2, e_binMK1, e_binM, e_eqDF, e_eqF_not, e_eqF_ins, e_lenF_ins, e_lenF_not, e_noX_pure, e_asBK, e_tst, e_truK, e_tru, e_notK, e_notT, e_andK, e_orK, e_andT, e_orT, e_notVK, e_notV, e_andVK, e_orVK, e_andV, e_orV, e_ifEK, e_ifE, e_isN, e_isNK_non, e_isNK_int, e_isNK_tup, e_isNK_lst, e_isNK_str, e_isNK_bl, e_isNK_ins, e_negK, e_neg1, e_chn, e_chnK1, e_chnK2, e_chnK3, e_aNil, e_consK2, e_consK, e_aCons, e_starK2, e_starK1, e_aStar, e_tupK, e_lstK1, e_dTup, e_dLst, e_lstK, e_lstF, e_frzF, e_frz, e_frzO, e_frzOv, e_frzOn, e_xNil, e_xK2, e_xVK, e_xFK, e_xV, e_xF, e_partK, e_pNone, e_pSome, e_slTK3, e_slTK2, e_slTK1, e_slT, e_slLK3, e_slLK3r, e_slLK2, e_slLK1, e_slL, e_revK, e_revL, e_compK, e_compE, e_compL_nil, e_compL_cons, e_cK1, e_cK2, e_cK3, e_cK4, e_own_no, e_own_none, e_own_v, e_own_acc, e_own_obj, e_yesT, e_callK2, e_callK1, e_callF, e_skK2, e_skK1, e_skK0, e_callSK, e_mthK3, e_mthK2, e_mthK1, e_methF, e_kwF, e_mkF, e_insK, e_insM, e_bindW, e_bindN, e_bindStar, e_badX, e_bodyM, e_bodyN, e_endF_ret, e_endF_next, e_endF_exc, e_endN_next, e_endN_exc, e_objOf, e_recv, e_fldW, e_look, e_fldK, e_fldO, e_isIns, e_isIns_int, e_isIns_bl, e_isIns_str, e_isIns_non, e_isIns_tup, e_isIns_lst, e_asBool, e_negBool, e_addI, e_addW, e_subI, e_ltI, e_leI, e_gtI, e_geI, e_mulW, e_modI, e_fdivI, e_powI, e_pow9, e_pow18, e_pow20, e_lenT, e_lenL, e_intI, e_intB, e_absW, e_tupleL, e_tupleT, e_itemsL, e_itemsT, e_ixL, e_ixT, e_allW, e_anyW, e_sumW, e_rsK, e_rsS, e_tryA, e_tryK_exc, e_tryK_next, e_tryK_ret, e_goneK_next, e_goneK_ret, e_try1, e_try1K_exc, e_try1K_next, e_try1K_ret, e_stopX_next, e_stopX_ret, e_clr_nil, e_clr_v, e_clr_no, e_clr_acc, e_own_xcp, e_xfF, e_xfK, List.getElem?_cons_zero, List.getElem?_cons_succ, List.getElem?_nil, List.set_cons_zero, List.set_cons_succ, List.map_cons, List.map_nil, List.length_cons, List.length_nil, List.cons_append, List.nil_append, List.append_nil, List.replicate, List.filterMap_cons, List.filterMap_nil, Option.map_some, Option.map_none, Option.some_or, Option.none_or, Option.bind_some, Option.bind_none, Nat.add_zero, Nat.zero_add, Nat.reduceAdd, Nat.reduceSub, Nat.reduceLT, Nat.reduceLeDiff, Nat.reduceMul, Nat.sub_zero, Nat.sub_self, if_true, if_false, reduceIte, decide_true, decide_false, Bool.not_true, Bool.not_false, Bool.true_and, Bool.and_true, Bool.false_and, Bool.and_false, Bool.true_or, Bool.or_true, Bool.false_or, Bool.or_false, and_true, true_and, and_false, false_and, or_true, true_or, or_false, false_or, not_true, not_false_iff, reduceCtorEq, eq_self, ne_eq, Bool.false_eq_true, Bool.true_eq_false, List.all_cons, List.all_nil, List.any_cons, List.any_nil, List.contains_cons, List.contains_nil, id_eq, startS, startN, sel, toN, toT, tsNil, tsCons, putX, wipeS, asLen, allW, anyW, sumW, asBools, asInts, max2W, min2W, bbT, isiW, tyN, String.reduceEq, String.reduceBEq, String.reduceNe, eqD_int, Bool.false_xor, Bool.true_xor, Bool.xor_false, Bool.xor_true, Int.reduceEq, Int.reduceLT, Int.reduceLE, Int.reduceAdd, Int.reduceSub, Int.reduceMul, Int.reduceNeg, Int.reducePow, Int.reduceToNat, Int.cast_ofNat_Int, Int.toNat_zero, Int.toNat_one, Int.toNat_natCast, decide_eq_true_eq, atI_lit, cutW_fromL, cutW_toL, cutW_midL, List.drop, List.take, beq_self_eq_true, elim_ite, bind_ite', ofStr_eq, ofStr_beq, zipW, sL, sLt, ladW, h0, fits]
  cases rch fs k fw with
  | none => simp only [e_elim_elim, e_elim_bind, e_bind_elim, e_bind_bind, e_elim_run, e_bind_run, e_kE, e_kB, e_kR, e_elim_pure, e_elim_throw, e_elim_bad, e_ofO_some, e_ofO_none, e_Mpure, e_Mbind, e_pure_bind, e_throw_bind, e_bad_bind, e_pure_run, e_throw_run, e_bad_run, e_exN, e_sq, e_sqK_next, e_sqK_ret, e_sqK_exc, e_sqK_brk, e_sqK_cont, e_nx, e_brkS, e_contS, e_rtN, e_retK, e_rtS, e_dropK, e_drp, e_ifS, e_ifK, e_nextO, e_nextN, e_asg, e_asgK, e_asgX, e_asgXK, e_asgF, e_asgFK, e_setK, e_binK1, e_binK2, e_bin, e_augI, e_forL_nil, e_forL_cons, e_forB, e_forK_next, e_forK_cont, e_forK_brk, e_forK_ret, e_forK_exc, e_forSK, e_forS, e_itemsK, e_itS, e_rng1N, e_rng1L, e_rng1, e_rng2, e_rng2K, e_rng2J, e_zipK, e_zipL, e_zipT, e_itZip, e_enumK, e_itEnum, e_accOf, e_appK2, e_appK, e_appS, e_extK2, e_extK, e_extS, e_objK, e_stK2, e_stK, e_stO, e_gv, e_gb, e_gvK, e_gbK, e_gbA, e_cw, e_un1K, e_un1, e_unFK, e_unF, e_un1MK, e_un1M, e_binMK2, e_binMK1, e_binM, e_eqDF, e_eqF_not, e_eqF_ins, e_lenF_ins, e_lenF_not, e_noX_pure, e_asBK, e_tst, e_truK, e_tru, e_notK, e_notT, e_andK, e_orK, e_andT, e_orT, e_notVK, e_notV, e_andVK, e_orVK, e_andV, e_orV, e_ifEK, e_ifE, e_isN, e_isNK_non, e_isNK_int, e_isNK_tup, e_isNK_lst, e_isNK_str, e_isNK_bl, e_isNK_ins, e_negK, e_neg1, e_chn, e_chnK1, e_chnK2, e_chnK3, e_aNil, e_consK2, e_consK, e_aCons, e_starK2, e_starK1, e_aStar, e_tupK, e_lstK1, e_dTup, e_dLst, e_lstK, e_lstF, e_frzF, e_frz, e_frzO, e_frzOv, e_frzOn, e_xNil, e_xK2, e_xVK, e_xFK, e_xV, e_xF, e_partK, e_pNone, e_pSome, e_slTK3, e_slTK2, e_slTK1, e_slT, e_slLK3, e_slLK3r, e_slLK2, e_slLK1, e_slL, e_revK, e_revL, e_compK, e_compE, e_compL_nil, e_compL_cons, e_cK1, e_cK2, e_cK3, e_cK4, e_own_no, e_own_none, e_own_v, e_own_acc, e_own_obj, e_yesT, e_callK2, e_callK1, e_callF, e_skK2, e_skK1, e_skK0, e_callSK, e_mthK3, e_mthK2, e_mthK1, e_methF, e_kwF, e_mkF, e_insK, e_insM, e_bindW, e_bindN, e_bindStar, e_badX, e_bodyM, e_bodyN, e_endF_ret, e_endF_next, e_endF_exc, e_endN_next, e_endN_exc, e_objOf, e_recv, e_fldW, e_look, e_fldK, e_fldO, e_isIns, e_isIns_int, e_isIns_bl, e_isIns_str, e_isIns_non, e_isIns_tup, e_isIns_lst, e_asBool, e_negBool, e_addI, e_addW, e_subI, e_ltI, e_leI, e_gtI, e_geI, e_mulW, e_modI, e_fdivI, e_powI, e_pow9, e_pow18, e_pow20, e_lenT, e_lenL, e_intI, e_intB, e_absW, e_tupleL, e_tupleT, e_itemsL, e_itemsT, e_ixL, e_ixT, e_allW, e_anyW, e_sumW, e_rsK, e_rsS, e_tryA, e_tryK_exc, e_tryK_next, e_tryK_ret, e_goneK_next, e_goneK_ret, e_try1, e_try1K_exc, e_try1K_next, e_try1K_ret, e_stopX_next, e_stopX_ret, e_clr_nil, e_clr_v, e_clr_no, e_clr_acc, e_own_xcp, e_xfF, e_xfK, List.getElem?_cons_zero, List.getElem?_cons_succ, List.getElem?_nil, List.set_cons_zero, List.set_cons_succ, List.map_cons, List.map_nil, List.length_cons, List.length_nil, List.cons_append, List.nil_append, List.append_nil, List.replicate, List.filterMap_cons, List.filterMap_nil, Option.map_some, Option.map_none, Option.some_or, Option.none_or, Option.bind_some, Option.bind_none, Nat.add_zero, Nat.zero_add, Nat.reduceAdd, Nat.reduceSub, Nat.reduceLT, Nat.reduceLeDiff, Nat.reduceMul, Nat.sub_zero, Nat.sub_self, if_true, if_false, reduceIte, decide_true, decide_false, Bool.not_true, Bool.not_false, Bool.true_and, Bool.and_true, Bool.false_and, Bool.and_false, Bool.true_or, Bool.or_true, Bool.false_or, Bool.or_false, and_true, true_and, and_false, false_and, or_true, true_or, or_false, false_or, not_true, not_false_iff, reduceCtorEq, eq_self, ne_eq, Bool.false_eq_true, Bool.true_eq_false, List.all_cons, List.all_nil, List.any_cons, List.any_nil, List.contains_cons, List.contains_nil, id_eq, startS, startN, sel, toN, toT, tsNil, tsCons, putX, wipeS, asLen, allW, anyW, sumW, asBools, asInts, max2W, min2W, bbT, isiW, tyN, String.reduceEq, String.reduceBEq, String.reduceNe, eqD_int, Bool.false_xor, Bool.true_xor, Bool.xor_false, Bool.xor_true, Int.reduceEq, Int.reduceLT, Int.reduceLE, Int.reduceAdd, Int.reduceSub, Int.reduceMul, Int.reduceNeg, Int.reducePow, Int.reduceToNat, Int.cast_ofNat_Int, Int.toNat_zero, Int.toNat_one, Int.toNat_natCast, decide_eq_true_eq, atI_lit, cutW_fromL, cutW_toL, cutW_midL, List.drop, List.take, beq_self_eq_true, elim_ite, bind_ite', ofStr_eq, ofStr_beq, zipW, sL, sLt]
  | some m => simp only [e_elim_elim, e_elim_bind, e_bind_elim, e_bind_bind, e_elim_run, e_bind_run, e_kE, e_kB, e_kR, e_elim_pure, e_elim_throw, e_elim_bad, e_ofO_some, e_ofO_none, e_Mpure, e_Mbind, e_pure_bind, e_throw_bind, e_bad_bind, e_pure_run, e_throw_run, e_bad_run, e_exN, e_sq, e_sqK_next, e_sqK_ret, e_sqK_exc, e_sqK_brk, e_sqK_cont, e_nx, e_brkS, e_contS, e_rtN, e_retK, e_rtS, e_dropK, e_drp, e_ifS, e_ifK, e_nextO, e_nextN, e_asg, e_asgK, e_asgX, e_asgXK, e_asgF, e_asgFK, e_setK, e_binK1, e_binK2, e_bin, e_augI, e_forL_nil, e_forL_cons, e_forB, e_forK_next, e_forK_cont, e_forK_brk, e_forK_ret, e_forK_exc, e_forSK, e_forS, e_itemsK, e_itS, e_rng1N, e_rng1L, e_rng1, e_rng2, e_rng2K, e_rng2J, e_zipK, e_zipL, e_zipT, e_itZip, e_enumK, e_itEnum, e_accOf, e_appK2, e_appK, e_appS, e_extK2, e_extK, e_extS, e_objK, e_stK2, e_stK, e_stO, e_gv, e_gb, e_gvK, e_gbK, e_gbA, e_cw, e_un1K, e_un1, e_unFK, e_unF, e_un1MK, e_un1M, e_binMK2, e_binMK1, e_binM, e_eqDF, e_eqF_not, e_eqF_ins, e_lenF_ins, e_lenF_not, e_noX_pure, e_asBK, e_tst, e_truK, e_tru, e_notK, e_notT, e_andK, e_orK, e_andT, e_orT, e_notVK, e_notV, e_andVK, e_orVK, e_andV, e_orV, e_ifEK, e_ifE, e_isN, e_isNK_non, e_isNK_int, e_isNK_tup, e_isNK_lst, e_isNK_str, e_isNK_bl, e_isNK_ins, e_negK, e_neg1, e_chn, e_chnK1, e_chnK2, e_chnK3, e_aNil, e_consK2, e_consK, e_aCons, e_starK2, e_starK1, e_aStar, e_tupK, e_lstK1, e_dTup, e_dLst, e_lstK, e_lstF, e_frzF, e_frz, e_frzO, e_frzOv, e_frzOn, e_xNil, e_xK2, e_xVK, e_xFK, e_xV, e_xF, e_partK, e_pNone, e_pSome, e_slTK3, e_slTK2, e_slTK1, e_slT, e_slLK3, e_slLK3r, e_slLK2, e_slLK1, e_slL, e_revK, e_revL, e_compK, e_compE, e_compL_nil, e_compL_cons, e_cK1, e_cK2, e_cK3, e_cK4, e_own_no, e_own_none, e_own_v, e_own_acc, e_own_obj, e_yesT, e_callK2, e_callK1, e_callF, e_skK2, e_skK1, e_skK0, e_callSK, e_mthK3, e_mthK2, e_mthK1, e_methF, e_kwF, e_mkF, e_insK, e_insM, e_bindW, e_bindN, e_bindStar, e_badX, e_bodyM, e_bodyN, e_endF_ret, e_endF_next, e_endF_exc, e_endN_next, e_endN_exc, e_objOf, e_recv, e_fldW, e_look, e_fldK, e_fldO, e_isIns, e_isIns_int, e_isIns_bl, e_isIns_str, e_isIns_non, e_isIns_tup, e_isIns_lst, e_asBool, e_negBool, e_addI, e_addW, e_subI, e_ltI, e_leI, e_gtI, e_geI, e_mulW, e_modI, e_fdivI, e_powI, e_pow9, e_pow18, e_pow20, e_lenT, e_lenL, e_intI, e_intB, e_absW, e_tupleL, e_tupleT, e_itemsL, e_itemsT, e_ixL, e_ixT, e_allW, e_anyW, e_sumW, e_rsK, e_rsS, e_tryA, e_tryK_exc, e_tryK_next, e_tryK_ret, e_goneK_next, e_goneK_ret, e_try1, e_try1K_exc, e_try1K_next, e_try1K_ret, e_stopX_next, e_stopX_ret, e_clr_nil, e_clr_v, e_clr_no, e_clr_acc, e_own_xcp, e_xfF, e_xfK, List.getElem?_cons_zero, List.getElem?_cons_succ, List.getElem?_nil, List.set_cons_zero, List.set_cons_succ, List.map_cons, List.map_nil, List.length_cons, List.length_nil, List.cons_append, List.nil_append, List.append_nil, List.replicate, List.filterMap_cons, List.filterMap_nil, Option.map_some, Option.map_none, Option.some_or, Option.none_or, Option.bind_some, Option.bind_none, Nat.add_zero, Nat.zero_add, Nat.reduceAdd, Nat.reduceSub, Nat.reduceLT, Nat.reduceLeDiff, Nat.reduceMul, Nat.sub_zero, Nat.sub_self, if_true, if_false, reduceIte, decide_true, decide_false, Bool.not_true, Bool.not_false, Bool.true_and, Bool.and_true, Bool.false_and, Bool.and_false, Bool.true_or, Bool.or_true, Bool.false_or, Bool.or_false, and_true, true_and, and_false, false_and, or_true, true_or, or_false, false_or, not_true, not_false_iff, reduceCtorEq, eq_self, ne_eq, Bool.false_eq_true, Bool.true_eq_false, List.all_cons, List.all_nil, List.any_cons, List.any_nil, List.contains_cons, List.contains_nil, id_eq, startS, startN, sel, toN, toT, tsNil, tsCons, putX, wipeS, asLen, allW, anyW, sumW, asBools, asInts, max2W, min2W, bbT, isiW, tyN, String.reduceEq, String.reduceBEq, String.reduceNe, eqD_int, Bool.false_xor, Bool.true_xor, Bool.xor_false, Bool.xor_true, Int.reduceEq, Int.reduceLT, Int.reduceLE, Int.reduceAdd, Int.reduceSub, Int.reduceMul, Int.reduceNeg, Int.reducePow, Int.reduceToNat, Int.cast_ofNat_Int, Int.toNat_zero, Int.toNat_one, Int.toNat_natCast, decide_eq_true_eq, atI_lit, cutW_fromL, cutW_toL, cutW_midL, List.drop, List.take, beq_self_eq_true, elim_ite, bind_ite', ofStr_eq, ofStr_beq, zipW, sL, sLt]
def frstN (fs : List Fm) (fw : Bool) (d : Int) : Nat → Nat → Nat
  | 0, k => k
  | n + 1, k => if fits fs k fw d = true then k else frstN fs fw d n (k + 1)
def frst (fs : List Fm) (fw : Bool) (d : Int) (k : Nat) : Nat := frstN fs fw d (fs.length - k) k
theorem frst_eq (fs : List Fm) (fw : Bool) (d : Int) (k : Nat) : frst fs fw d k = if k < fs.length ∧ fits fs k fw d = false then frst fs fw d (k + 1) else k := by
  unfold frst
  by_cases h : k < fs.length
  · have e : fs.length - k = (fs.length - (k + 1)) + 1 := by omega
    rw [e, frstN]
    cases hf : fits fs k fw d with
    | true => rw [if_pos rfl, if_neg (by simp)]
    | false => rw [if_neg (by decide), if_pos ⟨h, rfl⟩]
  · have e : fs.length - k = 0 := by omega
    rw [e, frstN, if_neg (by simp [h])]
theorem first_core (fs : List Fm) (l : Int) (k : Nat) (fw : Bool) (d : Int) (h : k ≤ fs.length) : bodyM 4 g_Ladder_first [ladW fs l, .int d, .bl fw, .int k] = pure (.int (frst fs fw d k)) := by
  have go : ∀ n k : Nat, fs.length - k = n → k ≤ fs.length → whlX (notT (tst (methF 0 "reaches" (kwF 1 f_Ladder_reaches__forward) (gv 0) (aCons (gv 3) (aCons (gv 1) (aNil))) (aCons (gv 2) (aNil))))) g_Ladder_first_l1 [.v (ladW fs l), .v (.int d), .v (.bl fw), .v (.int k)] = pure (.next [.v (ladW fs l), .v (.int d), .v (.bl fw), .v (.int (frst fs fw d k))]) := by
    intro n
    induction n with
    | zero =>
      intro k e hk
      have e2 : k = fs.length := by omega
      have e3 : fits fs k fw d = true := by rw [e2]; simp [fits, rch]
      have h0 := reaches_ok fs l k fw d hk
      simp only [ladW, e3] at h0
      rw [whlX_done, frst_eq, if_neg (by simp [e3])]
      simp only [e_elim_elim, e_elim_bind, e_bind_elim, e_bind_bind, e_elim_run, e_bind_run, e_kE, e_kB, e_kR, e_elim_pure, e_elim_throw, e_elim_bad, e_ofO_some, e_ofO_none, e_Mpure, e_Mbind, e_pure_bind, e_throw_bind, e_bad_bind, e_pure_run, e_throw_run, e_bad_run, e_exN, e_sq, e_sqK_next, e_sqK_ret, e_sqK_exc, e_sqK_brk, e_sqK_cont, e_nx, e_brkS, e_contS, e_rtN, e_retK, e_rtS, e_dropK, e_drp, e_ifS, e_ifK, e_nextO, e_nextN, e_asg, e_asgK, e_asgX, e_asgXK, e_asgF, e_asgFK, e_setK, e_binK1, e_binK2, e_bin, e_augI, e_forL_nil, e_forL_cons, e_forB, e_forK_next, e_forK_cont, e_forK_brk, e_forK_ret, e_forK_exc, e_forSK, e_forS, e_itemsK, e_itS, e_rng1N, e_rng1L, e_rng1, e_rng2, e_rng2K, e_rng2J, e_zipK, e_zipL, e_zipT, e_itZip, e_enumK, e_itEnum, e_accOf, e_appK2, e_appK, e_appS, e_extK2, e_extK, e_extS, e_objK, e_stK2, e_stK, e_stO, e_gv, e_gb, e_gvK, e_gbK, e_gbA, e_cw, e_un1K, e_un1, e_unFK, e_unF, e_un1MK, e_un1M, e_binMK2, e_binMK1, e_binM, e_eqDF, e_eqF_not, e_eqF_ins, e_lenF_ins, e_lenF_not, e_noX_pure, e_asBK, e_tst, e_truK, e_tru, e_notK, e_notT, e_andK, e_orK, e_andT, e_orT, e_notVK, e_notV, e_andVK, e_orVK, e_andV, e_orV, e_ifEK, e_ifE, e_isN, e_isNK_non, e_isNK_int, e_isNK_tup, e_isNK_lst, e_isNK_str, e_isNK_bl, e_isNK_ins, e_negK, e_neg1, e_chn, e_chnK1, e_chnK2, e_chnK3, e_aNil, e_consK2, e_consK, e_aCons, e_starK2, e_starK1, e_aStar, e_tupK, e_lstK1, e_dTup, e_dLst, e_lstK, e_lstF, e_frzF, e_frz, e_frzO, e_frzOv, e_frzOn, e_xNil, e_xK2, e_xVK, e_xFK, e_xV, e_xF, e_partK, e_pNone, e_pSome, e_slTK3, e_slTK2, e_slTK1, e_slT, e_slLK3, e_slLK3r, e_slLK2, e_slLK1, e_slL, e_revK, e_revL, e_compK, e_compE, e_compL_nil, e_compL_cons, e_cK1, e_cK2, e_cK3, e_cK4, e_own_no, e_own_none, e_own_v, e_own_acc, e_own_obj, e_yesT, e_callK2, e_callK1, e_callF, e_skK2, e_skK1, e_skK0, e_callSK, e_mthK3, e_mthK2, e_mthK1, e_methF, e_kwF, e_mkF, e_insK, e_insM, e_bindW, e_bindN, e_bindStar, e_badX, e_bodyM, e_bodyN, e_endF_ret, e_endF_next, e_endF_exc, e_endN_next, e_endN_exc, e_objOf, e_recv, e_fldW, e_look, e_fldK, e_fldO, e_isIns, e_isIns_int, e_isIns_bl, e_isIns_str, e_isIns_non, e_isIns_tup, e_isIns_lst, e_asBool, e_negBool, e_addI, e_addW, e_subI, e_ltI, e_leI, e_gtI, e_geI, e_mulW, e_modI, e_fdivI, e_powI, e_pow9, e_pow18, e_pow20, e_lenT, e_lenL, e_intI, e_intB, e_absW, e_tupleL, e_tupleT, e_itemsL, e_itemsT, e_ixL, e_ixT, e_allW, e_anyW, e_sumW, e_rsK, e_rsS, e_tryA, e_tryK_exc, e_tryK_next, e_tryK_ret, e_goneK_next, e_goneK_ret, e_try1, e_try1K_exc, e_try1K_next, e_try1K_ret, e_stopX_next, e_stopX_ret, e_clr_nil, e_clr_v, e_clr_no, e_clr_acc, e_own_xcp, e_xfF, e_xfK, List.getElem?_cons_zero, List.getElem?_cons_succ, List.getElem?_nil, List.set_cons_zero, List.set_cons_succ, List.map_cons, List.map_nil, List.length_cons, List.length_nil, List.cons_append, List.nil_append, List.append_nil, List.replicate, List.filterMap_cons, List.filterMap_nil, Option.map_some, Option.map_none, Option.some_or, Option.none_or, Option.bind_some, Option.bind_none, Nat.add_zero, Nat.zero_add, Nat.reduceAdd, Nat.reduceSub, Nat.reduceLT, Nat.reduceLeDiff, Nat.reduceMul, Nat.sub_zero, Nat.sub_self, if_true, if_false, reduceIte, decide_true, decide_false, Bool.not_true, Bool.not_false, Bool.true_and, Bool.and_true, Bool.false_and, Bool.and_false, Bool.true_or, Bool.or_true, Bool.false_or, Bool.or_false, and_true, true_and, and_false, false_and, or_true, true_or, or_false, false_or, not_true, not_false_iff, reduceCtorEq, eq_self, ne_eq, Bool.false_eq_true, Bool.true_eq_false, List.all_cons, List.all_nil, List.any_cons, List.any_nil, List.contains_cons, List.contains_nil, id_eq, startS, startN, sel, toN, toT, tsNil, tsCons, putX, wipeS, asLen, allW, anyW, sumW, asBools, asInts, max2W, min2W, bbT, isiW, tyN, String.reduceEq, String.reduceBEq, String.reduceNe, eqD_int, Bool.false_xor, Bool.true_xor, Bool.xor_false, Bool.xor_true, Int.reduceEq, Int.reduceLT, Int.reduceLE, Int.reduceAdd, Int.reduceSub, Int.reduceMul, Int.reduceNeg, Int.reducePow, Int.reduceToNat, Int.cast_ofNat_Int, Int.toNat_zero, Int.toNat_one, Int.toNat_natCast, decide_eq_true_eq, atI_lit, cutW_fromL, cutW_toL, cutW_midL, List.drop, List.take, beq_self_eq_true, elim_ite, bind_ite', ofStr_eq, ofStr_beq, zipW, sL, sLt, ladW, h0]
    | succ n ih =>
      intro k e hk
      have h0 := reaches_ok fs l k fw d hk
      simp only [ladW] at h0
      cases hf : fits fs k fw d with
      | true =>
        rw [whlX_done, frst_eq, if_neg (by simp [hf])]
        simp only [e_elim_elim, e_elim_bind, e_bind_elim, e_bind_bind, e_elim_run, e_bind_run, e_kE, e_kB, e_kR, e_elim_pure, e_elim_throw, e_elim_bad, e_ofO_some, e_ofO_none, e_Mpure, e_Mbind, e_pure_bind, e_throw_bind, e_bad_bind, e_pure_run, e_throw_run, e_bad_run, e_exN, e_sq, e_sqK_next, e_sqK_ret, e_sqK_exc, e_sqK_brk, e_sqK_cont, e_nx, e_brkS, e_contS, e_rtN, e_retK, e_rtS, e_dropK, e_drp, e_ifS, e_ifK, e_nextO, e_nextN, e_asg, e_asgK, e_asgX, e_asgXK, e_asgF, e_asgFK, e_setK, e_binK1, e_binK2, e_bin, e_augI, e_forL_nil, e_forL_cons, e_forB, e_forK_next, e_forK_cont, e_forK_brk, e_forK_ret, e_forK_exc, e_forSK, e_forS, e_itemsK, e_itS, e_rng1N, e_rng1L, e_rng1, e_rng2, e_rng2K, e_rng2J, e_zipK, e_zipL, e_zipT, e_itZip, e_enumK, e_itEnum, e_accOf, e_appK2, e_appK, e_appS, e_extK2, e_extK, e_extS, e_objK, e_stK2, e_stK, e_stO, e_gv, e_gb, e_gvK, e_gbK, e_gbA, e_cw, e_un1K, e_un1, e_unFK, e_unF, e_un1MK, e_un1M, e_binMK2, e_binMK1, e_binM, e_eqDF, e_eqF_not, e_eqF_ins, e_lenF_ins, e_lenF_not, e_noX_pure, e_asBK, e_tst, e_truK, e_tru, e_notK, e_notT, e_andK, e_orK, e_andT, e_orT, e_notVK, e_notV, e_andVK, e_orVK, e_andV, e_orV, e_ifEK, e_ifE, e_isN, e_isNK_non, e_isNK_int, e_isNK_tup, e_isNK_lst, e_isNK_str, e_isNK_bl, e_isNK_ins, e_negK, e_neg1, e_chn, e_chnK1, e_chnK2, e_chnK3, e_aNil, e_consK2, e_consK, e_aCons, e_starK2, e_starK1, e_aStar, e_tupK, e_lstK1, e_dTup, e_dLst, e_lstK, e_lstF, e_frzF, e_frz, e_frzO, e_frzOv, e_frzOn, e_xNil, e_xK2, e_xVK, e_xFK, e_xV, e_xF, e_partK, e_pNone, e_pSome, e_slTK3, e_slTK2, e_slTK1, e_slT, e_slLK3, e_slLK3r, e_slLK2, e_slLK1, e_slL, e_revK, e_revL, e_compK, e_compE, e_compL_nil, e_compL_cons, e_cK1, e_cK2, e_cK3, e_cK4, e_own_no, e_own_none, e_own_v, e_own_acc, e_own_obj, e_yesT, e_callK2, e_callK1, e_callF, e_skK2, e_skK1, e_skK0, e_callSK, e_mthK3, e_mthK2, e_mthK1, e_methF, e_kwF, e_mkF, e_insK, e_insM, e_bindW, e_bindN, e_bindStar, e_badX, e_bodyM, e_bodyN, e_endF_ret, e_endF_next, e_endF_exc, e_endN_next, e_endN_exc, e_objOf, e_recv, e_fldW, e_look, e_fldK, e_fldO, e_isIns, e_isIns_int, e_isIns_bl, e_isIns_str, e_isIns_non, e_isIns_tup, e_isIns_lst, e_asBool, e_negBool, e_addI, e_addW, e_subI, e_ltI, e_leI, e_gtI, e_geI, e_mulW, e_modI, e_fdivI, e_powI, e_pow9, e_pow18, e_pow20, e_lenT, e_lenL, e_intI, e_intB, e_absW, e_tupleL, e_tupleT, e_itemsL, e_itemsT, e_ixL, e_ixT, e_allW, e_anyW, e_sumW, e_rsK, e_rsS, e_tryA, e_tryK_exc, e_tryK_next, e_tryK_ret, e_goneK_next, e_goneK_ret, e_try1, e_try1K_exc, e_try1K_next, e_try1K_ret, e_stopX_next, e_stopX_ret, e_clr_nil, e_clr_v, e_clr_no, e_clr_acc, e_own_xcp, e_xfF, e_xfK, List.getElem?_cons_zero, List.getElem?_cons_succ, List.getElem?_nil, List.set_cons_zero, List.set_cons_succ, List.map_cons, List.map_nil, List.length_cons, List.length_nil, List.cons_append, List.nil_append, List.append_nil, List.replicate, List.filterMap_cons, List.filterMap_nil, Option.map_some, Option.map_none, Option.some_or, Option.none_or, Option.bind_some, Option.bind_none, Nat.add_zero, Nat.zero_add, Nat.reduceAdd, Nat.reduceSub, Nat.reduceLT, Nat.reduceLeDiff, Nat.reduceMul, Nat.sub_zero, Nat.sub_self, if_true, if_false, reduceIte, decide_true, decide_false, Bool.not_true, Bool.not_false, Bool.true_and, Bool.and_true, Bool.false_and, Bool.and_false, Bool.true_or, Bool.or_true, Bool.false_or, Bool.or_false, and_true, true_and, and_false, false_and, or_true, true_or, or_false, false_or, not_true, not_false_iff, reduceCtorEq, eq_self, ne_eq, Bool.false_eq_true, Bool.true_eq_false, List.all_cons, List.all_nil, List.any_cons, List.any_nil, List.contains_cons, List.contains_nil, id_eq, startS, startN, sel, toN, toT, tsNil, tsCons, putX, wipeS, asLen, allW, anyW, sumW, asBools, asInts, max2W, min2W, bbT, isiW, tyN, String.reduceEq, String.reduceBEq, String.reduceNe, eqD_int, Bool.false_xor, Bool.true_xor, Bool.xor_false, Bool.xor_true, Int.reduceEq, Int.reduceLT, Int.reduceLE, Int.reduceAdd, Int.reduceSub, Int.reduceMul, Int.reduceNeg, Int.reducePow, Int.reduceToNat, Int.cast_ofNat_Int, Int.toNat_zero, Int.toNat_one, Int.toNat_natCast, decide_eq_true_eq, atI_lit, cutW_fromL, cutW_toL, cutW_midL, List.drop, List.take, beq_self_eq_true, elim_ite, bind_ite', ofStr_eq, ofStr_beq, zipW, sL, sLt, ladW, h0, hf]
      | false =>
        rw [whlX_next (ρ' := [.v (ladW fs l), .v (.int d), .v (.bl fw), .v (.int (k + 1 : Nat))]), ih (k + 1) (by omega) (by omega)]
        · conv => rhs; rw [frst_eq, if_pos ⟨by omega, hf⟩]
        · simp only [e_elim_elim, e_elim_bind, e_bind_elim, e_bind_bind, e_elim_run, e_bind_run, e_kE, e_kB, e_kR, e_elim_pure, e_elim_throw, e_elim_bad, e_ofO_some, e_ofO_none, e_Mpure, e_Mbind, e_pure_bind, e_throw_bind, e_bad_bind, e_pure_run, e_throw_run, e_bad_run, e_exN, e_sq, e_sqK_next, e_sqK_ret, e_sqK_exc, e_sqK_brk, e_sqK_cont, e_nx, e_brkS, e_contS, e_rtN, e_retK, e_rtS, e_dropK, e_drp, e_ifS, e_ifK, e_nextO, e_nextN, e_asg, e_asgK, e_asgX, e_asgXK, e_asgF, e_asgFK, e_setK, e_binK1, e_binK2, e_bin, e_augI, e_forL_nil, e_forL_cons, e_forB, e_forK_next, e_forK_cont, e_forK_brk, e_forK_ret, e_forK_exc, e_forSK, e_forS, e_itemsK, e_itS, e_rng1N, e_rng1L, e_rng1, e_rng2, e_rng2K, e_rng2J, e_zipK, e_zipL, e_zipT, e_itZip, e_enumK, e_itEnum, e_accOf, e_appK2, e_appK, e_appS, e_extK2, e_extK, e_extS, e_objK, e_stK2, e_stK, e_stO, e_gv, e_gb, e_gvK, e_gbK, e_gbA, e_cw, e_un1K, e_un1, e_unFK, e_unF, e_un1MK, e_un1M, e_binMK2, e_binMK1, e_binM, e_eqDF, e_eqF_not, e_eqF_ins, e_lenF_ins, e_lenF_not, e_noX_pure, e_asBK, e_tst, e_truK, e_tru, e_notK, e_notT, e_andK, e_orK, e_andT, e_orT, e_notVK, e_notV, e_andVK, e_orVK, e_andV, e_orV, e_ifEK, e_ifE, e_isN, e_isNK_non, e_isNK_int, e_isNK_tup, e_isNK_lst, e_isNK_str, e_isNK_bl, e_isNK_ins, e_negK, e_neg1, e_chn, e_chnK1, e_chnK2, e_chnK3, e_aNil, e_consK2, e_consK, e_aCons, e_starK2, e_starK1, e_aStar, e_tupK, e_lstK1, e_dTup, e_dLst, e_lstK, e_lstF, e_frzF, e_frz, e_frzO, e_frzOv, e_frzOn, e_xNil, e_xK2, e_xVK, e_xFK, e_xV, e_xF, e_partK, e_pNone, e_pSome, e_slTK3, e_slTK2, e_slTK1, e_slT, e_slLK3, e_slLK3r, e_slLK2, e_slLK1, e_slL, e_revK, e_revL, e_compK, e_compE, e_compL_nil, e_compL_cons, e_cK1, e_cK2, e_cK3, e_cK4, e_own_no, e_own_none, e_own_v, e_own_acc, e_own_obj, e_yesT, e_callK2, e_callK1, e_callF, e_skK2, e_skK1, e_skK0, e_callSK, e_mthK3, e_mthK2, e_mthK1, e_methF, e_kwF, e_mkF, e_insK, e_insM, e_bindW, e_bindN, e_bindStar, e_badX, e_bodyM, e_bodyN, e_endF_ret, e_endF_next, e_endF_exc, e_endN_next, e_endN_exc, e_objOf, e_recv, e_fldW, e_look, e_fldK, e_fldO, e_isIns, e_isIns_int, e_isIns_bl, e_isIns_str, e_isIns_non, e_isIns_tup, e_isIns_lst, e_asBool, e_negBool, e_addI, e_addW, e_subI, e_ltI, e_leI, e_gtI, e_geI, e_mulW, e_modI, e_fdivI, e_powI, e_pow9, e_pow18, e_pow20, e_lenT, e_lenL, e_intI, e_intB, e_absW, e_tupleL, e_tupleT, e_itemsL, e_itemsT, e_ixL, e_ixT, e_allW, e_anyW, e_sumW, e_rsK, e_rsS, e_tryA, e_tryK_exc, e_tryK_next, e_tryK_ret, e_goneK_next, e_goneK_ret, e_try1, e_try1K_exc, e_try1K_next, e_try1K_ret, e_stopX_next, e_stopX_ret, e_clr_nil, e_clr_v, e_clr_no, e_clr_acc, e_own_xcp, e_xfF, e_xfK, List.getElem?_cons_zero, List.getElem?_cons_succ, List.getElem?_nil, List.set_cons_zero, List.set_cons_succ, List.map_cons, List.map_nil, List.length_cons, List.length_nil, List.cons_append, List.nil_append, List.append_nil, List.replicate, List.filterMap_cons, List.filterMap_nil, Option.map_some, Option.map_none, Option.some_or, Option.none_or, Option.bind_some, Option.bind_none, Nat.add_zero, Nat.zero_add, Nat.reduceAdd, Nat.reduceSub, Nat.reduceLT, Nat.reduceLeDiff, Nat.reduceMul, Nat.sub_zero, Nat.sub_self, if_true, if_false, reduceIte, decide_true, decide_false, Bool.not_true, Bool.not_false, Bool.true_and, Bool.and_true, Bool.false_and, Bool.and_false, Bool.true_or, Bool.or_true, Bool.false_or, Bool.or_false, and_true, true_and, and_false, false_and, or_true, true_or, or_false, false_or, not_true, not_false_iff, reduceCtorEq, eq_self, ne_eq, Bool.false_eq_true, Bool.true_eq_false, List.all_cons, List.all_nil, List.any_cons, List.any_nil, List.contains_cons, List.contains_nil, id_eq, startS, startN, sel, toN, toT, tsNil, tsCons, putX, wipeS, asLen, allW, anyW, sumW, asBools, asInts, max2W, min2W, bbT, isiW, tyN, String.reduceEq, String.reduceBEq, String.reduceNe, eqD_int, Bool.false_xor, Bool.true_xor, Bool.xor_false, Bool.xor_true, Int.reduceEq, Int.reduceLT, Int.reduceLE, Int.reduceAdd, Int.reduceSub, Int.reduceMul, Int.reduceNeg, Int.reducePow, Int.reduceToNat, Int.cast_ofNat_Int, Int.toNat_zero, Int.toNat_one, Int.toNat_natCast, decide_eq_true_eq, atI_lit, cutW_fromL, cutW_toL, cutW_midL, List.drop, List.take, beq_self_eq_true, elim_ite, bind_ite', ofStr_eq, ofStr_beq, zipW, sL, sLt, ladW, h0, hf]
        · simp only [g_Ladder_first_l1, e_elim_elim, e_elim_bind, e_bind_elim, e_bind_bind, e_elim_run, e_bind_run, e_kE, e_kB, e_kR, e_elim_pure, e_elim_throw, e_elim_bad, e_ofO_some, e_ofO_none, e_Mpure, e_Mbind, e_pure_bind, e_throw_bind, e_bad_bind, e_pure_run, e_throw_run, e_bad_run, e_exN, e_sq, e_sqK_next, e_sqK_ret, e_sqK_exc, e_sqK_brk, e_sqK_cont, e_nx, e_brkS, e_contS, e_rtN, e_retK, e_rtS, e_dropK, e_drp, e_ifS, e_ifK, e_nextO, e_nextN, e_asg, e_asgK, e_asgX, e_asgXK, e_asgF, e_asgFK, e_setK, e_binK1, e_binK2, e_bin, e_augI, e_forL_nil, e_forL_cons, e_forB, e_forK_next, e_forK_cont, e_forK_brk, e_forK_ret, e_forK_exc, e_forSK, e_forS, e_itemsK, e_itS, e_rng1N, e_rng1L, e_rng1, e_rng2, e_rng2K, e_rng2J, e_zipK, e_zipL, e_zipT, e_itZip, e_enumK, e_itEnum, e_accOf, e_appK2, e_appK, e_appS, e_extK2, e_extK, e_extS, e_objK, e_stK2, e_stK, e_stO, e_gv, e_gb, e_gvK, e_gbK, e_gbA, e_cw, e_un1K, e_un1, e_unFK, e_unF, e_un1MK, e_un1M, e_binMK2, e_binMK1, e_binM, e_eqDF, e_eqF_not, e_eqF_ins, e_lenF_ins, e_lenF_not, e_noX_pure, e_asBK, e_tst, e_truK, e_tru, e_notK, e_notT, e_andK, e_orK, e_andT, e_orT, e_notVK, e_notV, e_andVK, e_orVK, e_andV, e_orV, e_ifEK, e_ifE, e_isN, e_isNK_non, e_isNK_int, e_isNK_tup, e_isNK_lst, e_isNK_str, e_isNK_bl, e_isNK_ins, e_negK, e_neg1, e_chn, e_chnK1, e_chnK2, e_chnK3, e_aNil, e_consK2, e_consK, e_aCons, e_starK2, e_starK1, e_aStar, e_tupK, e_lstK1, e_dTup, e_dLst, e_lstK, e_lstF, e_frzF, e_frz, e_frzO, e_frzOv, e_frzOn, e_xNil, e_xK2, e_xVK, e_xFK, e_xV, e_xF, e_partK, e_pNone, e_pSome, e_slTK3, e_slTK2, e_slTK1, e_slT, e_slLK3, e_slLK3r, e_slLK2, e_slLK1, e_slL, e_revK, e_revL, e_compK, e_compE, e_compL_nil, e_compL_cons, e_cK1, e_cK2, e_cK3, e_cK4, e_own_no, e_own_none, e_own_v, e_own_acc, e_own_obj, e_yesT, e_callK2, e_callK1, e_callF, e_skK2, e_skK1, e_skK0, e_callSK, e_mthK3, e_mthK2, e_mthK1, e_methF, e_kwF, e_mkF, e_insK, e_insM, e_bindW, e_bindN, e_bindStar, e_badX, e_bodyM, e_bodyN, e_endF_ret, e_endF_next, e_endF_exc, e_endN_next, e_endN_exc, e_objOf, e_recv, e_fldW, e_look, e_fldK, e_fldO, e_isIns, e_isIns_int, e_isIns_bl, e_isIns_str, e_isIns_non, e_isIns_tup, e_isIns_lst, e_asBool, e_negBool, e_addI, e_addW, e_subI, e_ltI, e_leI, e_gtI, e_geI, e_mulW, e_modI, e_fdivI, e_powI, e_pow9, e_pow18, e_pow20, e_lenT, e_lenL, e_intI, e_intB, e_absW, e_tupleL, e_tupleT, e_itemsL, e_itemsT, e_ixL, e_ixT, e_allW, e_anyW, e_sumW, e_rsK, e_rsS, e_tryA, e_tryK_exc, e_tryK_next, e_tryK_ret, e_goneK_next, e_goneK_ret, e_try1, e_try1K_exc, e_try1K_next, e_try1K_ret, e_stopX_next, e_stopX_ret, e_clr_nil, e_clr_v, e_clr_no, e_clr_acc, e_own_xcp, e_xfF, e_xfK, List.getElem?_cons_zero, List.getElem?_cons_succ, List.getElem?_nil, List.set_cons_zero, List.set_cons_succ, List.map_cons, List.map_nil, List.length_cons, List.length_nil, List.cons_append, List.nil_append, List.append_nil, List.replicate, List.filterMap_cons, List.filterMap_nil, Option.map_some, Option.map_none, Option.some_or, Option.none_or, Option.bind_some, Option.bind_none, Nat.add_zero, Nat.zero_add, Nat.reduceAdd, Nat.reduceSub, Nat.reduceLT, Nat.reduceLeDiff, Nat.reduceMul, Nat.sub_zero, Nat.sub_self, if_true, if_false, reduceIte, decide_true, decide_false, Bool.not_true, Bool.not_false, Bool.true_and, Bool.and_true, Bool.false_and, Bool.and_false, Bool.true_or, Bool.or_true, Bool.false_or, Bool.or_false, and_true, true_and, and_false, false_and, or_true, true_or, or_false, false_or, not_true, not_false_iff, reduceCtorEq, eq_self, ne_eq, Bool.false_eq_true, Bool.true_eq_false, List.all_cons, List.all_nil, List.any_cons, List.any_nil, List.contains_cons, List.contains_nil, id_eq, startS, startN, sel, toN, toT, tsNil, tsCons, putX, wipeS, asLen, allW, anyW, sumW, asBools, asInts, max2W, min2W, bbT, isiW, tyN, String.reduceEq, String.reduceBEq, String.reduceNe, eqD_int, Bool.false_xor, Bool.true_xor, Bool.xor_false, Bool.xor_true, Int.reduceEq, Int.reduceLT, Int.reduceLE, Int.reduceAdd, Int.reduceSub, Int.reduceMul, Int.reduceNeg, Int.reducePow, Int.reduceToNat, Int.cast_ofNat_Int, Int.toNat_zero, Int.toNat_one, Int.toNat_natCast, decide_eq_true_eq, atI_lit, cutW_fromL, cutW_toL, cutW_midL, List.drop, List.take, beq_self_eq_true, elim_ite, bind_ite', ofStr_eq, ofStr_beq, zipW, sL, sLt]
          rfl
  have h0 := need_ok fs l k h
  have h1 := go _ k rfl h
  simp only [ladW] at h0 h1
  simp only [g_Ladder_first, e_elim_elim, e_elim_bind, e_bind_elim, e_bind_bind, e_elim_run, e_bind_run, e_kE, e_kB, e_kR, e_elim_pure, e_elim_throw, e_elim_bad, e_ofO_some, e_ofO_none, e_Mpure, e_Mbind, e_pure_bind, e_throw_bind, e_bad_bind, e_pure_run, e_throw_run, e_bad_run, e_exN, e_sq, e_sqK_next, e_sqK_ret, e_sqK_exc, e_sqK_brk, e_sqK_cont, e_nx, e_brkS, e_contS, e_rtN, e_retK, e_rtS, e_dropK, e_drp, e_ifS, e_ifK, e_nextO, e_nextN, e_asg, e_asgK, e_asgX, e_asgXK, e_asgF, e_asgFK, e_setK, e_binK1, e_binK2, e_bin, e_augI, e_forL_nil, e_forL_cons, e_forB, e_forK_next, e_forK_cont, e_forK_brk, e_forK_ret, e_forK_exc, e_forSK, e_forS, e_itemsK, e_itS, e_rng1N, e_rng1L, e_rng1, e_rng2, e_rng2K, e_rng2J, e_zipK, e_zipL, e_zipT, e_itZip, e_enumK, e_itEnum, e_accOf, e_appK2, e_appK, e_appS, e_extK2, e_extK, e_extS, e_objK, e_stK2, e_stK, e_stO, e_gv, e_gb, e_gvK, e_gbK, e_gbA, e_cw, e_un1K, e_un1, e_unFK, e_unF, e_un1MK, e_un1M, e_binMK2, e_binMK1, e_binM, e_eqDF, e_eqF_not, e_eqF_ins, e_lenF_ins, e_lenF_not, e_noX_pure, e_asBK, e_tst, e_truK, e_tru, e_notK, e_notT, e_andK, e_orK, e_andT, e_orT, e_notVK, e_notV, e_andVK, e_orVK, e_andV, e_orV, e_ifEK, e_ifE, e_isN, e_isNK_non, e_isNK_int, e_isNK_tup, e_isNK_lst, e_isNK_str, e_isNK_bl, e_isNK_ins, e_negK, e_neg1, e_chn, e_chnK1, e_chnK2, e_chnK3, e_aNil, e_consK2, e_consK, e_aCons, e_starK2, e_starK1, e_aStar, e_tupK, e_lstK1, e_dTup, e_dLst, e_lstK, e_lstF, e_frzF, e_frz, e_frzO, e_frzOv, e_frzOn, e_xNil, e_xK2, e_xVK, e_xFK, e_xV, e_xF, e_partK, e_pNone, e_pSome, e_slTK3, e_slTK2, e_slTK1, e_slT, e_slLK3, e_slLK3r, e_slLK2, e_slLK1, e_slL, e_revK, e_revL, e_compK, e_compE, e_compL_nil, e_compL_cons, e_cK1, e_cK2, e_cK3, e_cK4, e_own_no, e_own_none, e_own_v, e_own_acc, e_own_obj, e_yesT, e_callK2, e_callK1, e_callF, e_skK2, e_skK1, e_skK0, e_callSK, e_mthK3, e_mthK2, e_mthK1, e_methF, e_kwF, e_mkF, e_insK, e_insM, e_bindW, e_bindN, e_bindStar, e_badX, e_bodyM, e_bodyN, e_endF_ret, e_endF_next, e_endF_exc, e_endN_next, e_endN_exc, e_objOf, e_recv, e_fldW, e_look, e_fldK, e_fldO, e_isIns, e_isIns_int, e_isIns_bl, e_isIns_str, e_isIns_non, e_isIns_tup, e_isIns_lst, e_asBool, e_negBool, e_addI, e_addW, e_subI, e_ltI, e_leI, e_gtI, e_geI, e_mulW, e_modI, e_fdivI, e_powI, e_pow9, e_pow18, e_pow20, e_lenT, e_lenL, e_intI, e_intB, e_absW, e_tupleL, e_tupleT, e_itemsL, e_itemsT, e_ixL, e_ixT, e_allW, e_anyW, e_sumW, e_rsK, e_rsS, e_tryA, e_tryK_exc, e_tryK_next, e_tryK_ret, e_goneK_next, e_goneK_ret, e_try1, e_try1K_exc, e_try1K_next, e_try1K_ret, e_stopX_next, e_stopX_ret, e_clr_nil, e_clr_v, e_clr_no, e_clr_acc, e_own_xcp, e_xfF, e_xfK, List.getElem?_cons_zero, List.getElem?_cons_succ, List.getElem?_nil, List.set_cons_zero, List.set_cons_succ, List.map_cons, List.map_nil, List.length_cons, List.length_nil, List.cons_append, List.nil_append, List.append_nil, List.replicate, List.filterMap_cons, List.filterMap_nil, Option.map_some, Option.map_none, Option.some_or, Option.none_or, Option.bind_some, Option.bind_none, Nat.add_zero, Nat.zero_add, Nat.reduceAdd, Nat.reduceSub, Nat.reduceLT, Nat.reduceLeDiff, Nat.reduceMul, Nat.sub_zero, Nat.sub_self, if_true, if_false, reduceIte, decide_true, decide_false, Bool.not_true, Bool.not_false, Bool.true_and, Bool.and_true, Bool.false_and, Bool.and_false, Bool.true_or, Bool.or_true, Bool.false_or, Bool.or_false, and_true, true_and, and_false, false_and, or_true, true_or, or_false, false_or, not_true, not_false_iff, reduceCtorEq, eq_self, ne_eq, Bool.false_eq_true, Bool.true_eq_false, List.all_cons, List.all_nil, List.any_cons, List.any_nil, List.contains_cons, List.contains_nil, id_eq, startS, startN, sel, toN, toT, tsNil, tsCons, putX, wipeS, asLen, allW, anyW, sumW, asBools, asInts, max2W, min2W, bbT, isiW, tyN, String.reduceEq, String.reduceBEq, String.reduceNe, eqD_int, Bool.false_xor, Bool.true_xor, Bool.xor_false, Bool.xor_true, Int.reduceEq, Int.reduceLT, Int.reduceLE, Int.reduceAdd, Int.reduceSub, Int.reduceMul, Int.reduceNeg, Int.reducePow, Int.reduceToNat, Int.cast_ofNat_Int, Int.toNat_zero, Int.toNat_one, Int.toNat_natCast, decide_eq_true_eq, atI_lit, cutW_fromL, cutW_toL, cutW_midL, List.drop, List.take, beq_self_eq_true, elim_ite, bind_ite', ofStr_eq, ofStr_beq, zipW, sL, sLt, ladW, h0]
  rw [h1]
  simp only [e_elim_elim, e_elim_bind, e_bind_elim, e_bind_bind, e_elim_run, e_bind_run, e_kE, e_kB, e_kR, e_elim_pure, e_elim_throw, e_elim_bad, e_ofO_some, e_ofO_none, e_Mpure, e_Mbind, e_pure_bind, e_throw_bind, e_bad_bind, e_pure_run, e_throw_run, e_bad_run, e_exN, e_sq, e_sqK_next, e_sqK_ret, e_sqK_exc, e_sqK_brk, e_sqK_cont, e_nx, e_brkS, e_contS, e_rtN, e_retK, e_rtS, e_dropK, e_drp, e_ifS, e_ifK, e_nextO, e_nextN, e_asg, e_asgK, e_asgX, e_asgXK, e_asgF, e_asgFK, e_setK, e_binK1, e_binK2, e_bin, e_augI, e_forL_nil, e_forL_cons, e_forB, e_forK_next, e_forK_cont, e_forK_brk, e_forK_ret, e_forK_exc, e_forSK, e_forS, e_itemsK, e_itS, e_rng1N, e_rng1L, e_rng1, e_rng2, e_rng2K, e_rng2J, e_zipK, e_zipL, e_zipT, e_itZip, e_enumK, e_itEnum, e_accOf, e_appK2, e_appK, e_appS, e_extK2, e_extK, e_extS, e_objK, e_stK2, e_stK, e_stO, e_gv, e_gb, e_gvK, e_gbK, e_gbA, e_cw, e_un1K, e_un1, e_unFK, e_unF, e_un1MK, e_un1M, e_binMK2, e_binMK1, e_binM, e_eqDF, e_eqF_not, e_eqF_ins, e_lenF_ins, e_lenF_not, e_noX_pure, e_asBK, e_tst, e_truK, e_tru, e_notK, e_notT, e_andK, e_orK, e_andT, e_orT, e_notVK, e_notV, e_andVK, e_orVK, e_andV, e_orV, e_ifEK, e_ifE, e_isN, e_isNK_non, e_isNK_int, e_isNK_tup, e_isNK_lst, e_isNK_str, e_isNK_bl, e_isNK_ins, e_negK, e_neg1, e_chn, e_chnK1, e_chnK2, e_chnK3, e_aNil, e_consK2, e_consK, e_aCons, e_starK2, e_starK1, e_aStar, e_tupK, e_lstK1, e_dTup, e_dLst, e_lstK, e_lstF, e_frzF, e_frz, e_frzO, e_frzOv, e_frzOn, e_xNil, e_xK2, e_xVK, e_xFK, e_xV, e_xF, e_partK, e_pNone, e_pSome, e_slTK3, e_slTK2, e_slTK1, e_slT, e_slLK3, e_slLK3r, e_slLK2, e_slLK1, e_slL, e_revK, e_revL, e_compK, e_compE, e_compL_nil, e_compL_cons, e_cK1, e_cK2, e_cK3, e_cK4, e_own_no, e_own_none, e_own_v, e_own_acc, e_own_obj, e_yesT, e_callK2, e_callK1, e_callF, e_skK2, e_skK1, e_skK0, e_callSK, e_mthK3, e_mthK2, e_mthK1, e_methF, e_kwF, e_mkF, e_insK, e_insM, e_bindW, e_bindN, e_bindStar, e_badX, e_bodyM, e_bodyN, e_endF_ret, e_endF_next, e_endF_exc, e_endN_next, e_endN_exc, e_objOf, e_recv, e_fldW, e_look, e_fldK, e_fldO, e_isIns, e_isIns_int, e_isIns_bl, e_isIns_str, e_isIns_non, e_isIns_tup, e_isIns_lst, e_asBool, e_negBool, e_addI, e_addW, e_subI, e_ltI, e_leI, e_gtI, e_geI, e_mulW, e_modI, e_fdivI, e_powI, e_pow9, e_pow18, e_pow20, e_lenT, e_lenL, e_intI, e_intB, e_absW, e_tupleL, e_tupleT, e_itemsL, e_itemsT, e_ixL, e_ixT, e_allW, e_anyW, e_sumW, e_rsK, e_rsS, e_tryA, e_tryK_exc, e_tryK_next, e_tryK_ret, e_goneK_next, e_goneK_ret, e_try1, e_try1K_exc, e_try1K_next, e_try1K_ret, e_stopX_next, e_stopX_ret, e_clr_nil, e_clr_v, e_clr_no, e_clr_acc, e_own_xcp, e_xfF, e_xfK, List.getElem?_cons_zero, List.getElem?_cons_succ, List.getElem?_nil, List.set_cons_zero, List.set_cons_succ, List.map_cons, List.map_nil, List.length_cons, List.length_nil, List.cons_append, List.nil_append, List.append_nil, List.replicate, List.filterMap_cons, List.filterMap_nil, Option.map_some, Option.map_none, Option.some_or, Option.none_or, Option.bind_some, Option.bind_none, Nat.add_zero, Nat.zero_add, Nat.reduceAdd, Nat.reduceSub, Nat.reduceLT, Nat.reduceLeDiff, Nat.reduceMul, Nat.sub_zero, Nat.sub_self, if_true, if_false, reduceIte, decide_true, decide_false, Bool.not_true, Bool.not_false, Bool.true_and, Bool.and_true, Bool.false_and, Bool.and_false, Bool.true_or, Bool.or_true, Bool.false_or, Bool.or_false, and_true, true_and, and_false, false_and, or_true, true_or, or_false, false_or, not_true, not_false_iff, reduceCtorEq, eq_self, ne_eq, Bool.false_eq_true, Bool.true_eq_false, List.all_cons, List.all_nil, List.any_cons, List.any_nil, List.contains_cons, List.contains_nil, id_eq, startS, startN, sel, toN, toT, tsNil, tsCons, putX, wipeS, asLen, allW, anyW, sumW, asBools, asInts, max2W, min2W, bbT, isiW, tyN, String.reduceEq, String.reduceBEq, String.reduceNe, eqD_int, Bool.false_xor, Bool.true_xor, Bool.xor_false, Bool.xor_true, Int.reduceEq, Int.reduceLT, Int.reduceLE, Int.reduceAdd, Int.reduceSub, Int.reduceMul, Int.reduceNeg, Int.reducePow, Int.reduceToNat, Int.cast_ofNat_Int, Int.toNat_zero, Int.toNat_one, Int.toNat_natCast, decide_eq_true_eq, atI_lit, cutW_fromL, cutW_toL, cutW_midL, List.drop, List.take, beq_self_eq_true, elim_ite, bind_ite', ofStr_eq, ofStr_beq, zipW, sL, sLt]
theorem first_go (fs : List Fm) (l : Int) (k : Nat) (fw : Bool) (d : Int) (h : k ≤ fs.length) : f_Ladder_first__forward_least [ladW fs l, .int d] [.bl fw, .int k] = pure (.int (frst fs fw d k)) := by
  rw [← first_core fs l k fw d h]
  simp only [f_Ladder_first__forward_least, e_bindW, sel, List.length_cons, List.length_nil, if_true, List.cons_append, List.nil_append, List.append_nil, List.filterMap_cons, List.filterMap_nil, List.getElem?_cons_zero, List.getElem?_cons_succ]
theorem first_lf (fs : List Fm) (l : Int) (k : Nat) (fw : Bool) (d : Int) (h : k ≤ fs.length) : f_Ladder_first__least_forward [ladW fs l, .int d] [.int k, .bl fw] = pure (.int (frst fs fw d k)) := by
  rw [← first_core fs l k fw d h]
  simp only [f_Ladder_first__least_forward, e_bindW, sel, List.length_cons, List.length_nil, if_true, List.cons_append, List.nil_append, List.append_nil, List.filterMap_cons, List.filterMap_nil, List.getElem?_cons_zero, List.getElem?_cons_succ]
theorem first0_ok (fs : List Fm) (l : Int) (fw : Bool) (d : Int) : f_Ladder_first__forward [ladW fs l, .int d] [.bl fw] = pure (.int (frst fs fw d 0)) := by
  rw [← first_core fs l 0 fw d (Nat.zero_le _)]
  simp only [f_Ladder_first__forward, e_bindW, sel, List.length_cons, List.length_nil, if_true, List.cons_append, List.nil_append, List.append_nil, List.filterMap_cons, List.filterMap_nil, List.getElem?_cons_zero, List.getElem?_cons_succ, Int.natCast_zero]
theorem okW_forms (fs : List Fm) : okW 9 (.tup (fs.map fW)) = true := by
  simp [okW, fW]
theorem eqW_fW (f g : Fm) : eqW (fW f) (fW g) = true ↔ f = g := by
  obtain ⟨a, b, c⟩ := f
  obtain ⟨a', b', c'⟩ := g
  simp [fW, eqW, eqWs]
theorem eq_forms (fs gs : List Fm) (neg : Bool) : eqD neg (.tup (fs.map fW)) (.tup (gs.map fW)) = some (.bl (neg ^^ decide (fs = gs))) := by
  rw [eqD_ok (okW_forms fs) (okW_forms gs)]
  have e : eqW (.tup (fs.map fW)) (.tup (gs.map fW)) = decide (fs = gs) := by
    rw [eqW]
    exact Bool.eq_iff_iff.mpr ((eqWs_map eqW_fW).trans (by simp))
  rw [e]
theorem fits_mono {fs : List Fm} {l : Int} (h : LadOk fs l) (fw : Bool) (d : Int) (k : Nat) (hf : fits fs k fw d = true) : fits fs (k + 1) fw d = true := by
  match fs, h with
  | [], h => simp [fits, rch]
  | [f], h => simp [fits, rch]
  | [(s, b, a), (s', b', a')], h =>
    obtain ⟨h1, h2, h3, h4, h5, h6, h7⟩ := h
    match k with
    | 0 => cases fw <;> simp [fits, rch] at hf h5 h6 ⊢ <;> omega
    | 1 => simp [fits, rch]
    | k + 2 => simp [fits, rch]
theorem fits_le {fs : List Fm} {l : Int} (h : LadOk fs l) (fw : Bool) (d : Int) {j k : Nat} (hjk : j ≤ k) (hf : fits fs j fw d = true) : fits fs k fw d = true := by
  induction hjk with
  | refl => exact hf
  | step _ ih => exact fits_mono h fw d _ ih
theorem frst_spec (fs : List Fm) (fw : Bool) (d : Int) (k : Nat) (hk : k ≤ fs.length) : k ≤ frst fs fw d k ∧ frst fs fw d k ≤ fs.length ∧ fits fs (frst fs fw d k) fw d = true ∧ ∀ j, k ≤ j → j < frst fs fw d k → fits fs j fw d = false := by
  have go : ∀ n k : Nat, fs.length - k = n → k ≤ fs.length → k ≤ frst fs fw d k ∧ frst fs fw d k ≤ fs.length ∧ fits fs (frst fs fw d k) fw d = true ∧ ∀ j, k ≤ j → j < frst fs fw d k → fits fs j fw d = false := by
    intro n
    induction n with
    | zero =>
      intro k e hk
      have e2 : k = fs.length := by omega
      have e3 : fits fs k fw d = true := by rw [e2]; simp [fits, rch]
      rw [frst_eq, if_neg (by simp [e3])]
      exact ⟨Nat.le_refl _, hk, e3, fun j h1 h2 => by omega⟩
    | succ n ih =>
      intro k e hk
      cases hf : fits fs k fw d with
      | true =>
        rw [frst_eq, if_neg (by simp [hf])]
        exact ⟨Nat.le_refl _, hk, hf, fun j h1 h2 => by omega⟩
      | false =>
        obtain ⟨h1, h2, h3, h4⟩ := ih (k + 1) (by omega) (by omega)
        rw [frst_eq, if_pos ⟨by omega, hf⟩]
        refine ⟨by omega, h2, h3, fun j hj hj' => ?_⟩
        by_cases e : j = k
        · rw [e]; exact hf
        · exact h4 j (by omega) hj'
  exact go _ k rfl hk
theorem fits_iff {fs : List Fm} {l : Int} (h : LadOk fs l) (fw : Bool) (d : Int) (k : Nat) : fits fs k fw d = decide (frst fs fw d 0 ≤ k) := by
  obtain ⟨_, h2, h3, h4⟩ := frst_spec fs fw d 0 (Nat.zero_le _)
  by_cases e : frst fs fw d 0 ≤ k
  · rw [fits_le h fw d e h3, decide_eq_true e]
  · rw [h4 k (Nat.zero_le _) (by omega), decide_eq_false e]
theorem frst_max {fs : List Fm} {l : Int} (h : LadOk fs l) (fw : Bool) (d : Int) (k : Nat) (hk : k ≤ fs.length) : frst fs fw d k = max k (frst fs fw d 0) := by
  obtain ⟨h1, h2, h3, h4⟩ := frst_spec fs fw d k hk
  rw [fits_iff h] at h3
  have h3 := of_decide_eq_true h3
  by_cases e : frst fs fw d 0 ≤ k
  · have : frst fs fw d k = k := by
      by_cases e2 : k < frst fs fw d k
      · have := h4 k (Nat.le_refl _) e2
        rw [fits_iff h] at this
        exact absurd e (of_decide_eq_false this)
      · omega
    omega
  · by_cases e2 : frst fs fw d 0 < frst fs fw d k
    · have := h4 (frst fs fw d 0) (by omega) e2
      rw [fits_iff h] at this
      exact absurd (Nat.le_refl _) (of_decide_eq_false this)
    · omega
theorem frst_mono {fs : List Fm} (fw : Bool) {d d' : Int} (hd : d ≤ d') : frst fs fw d 0 ≤ frst fs fw d' 0 := by
  obtain ⟨_, h2, h3, h4⟩ := frst_spec fs fw d 0 (Nat.zero_le _)
  obtain ⟨_, h2', h3', h4'⟩ := frst_spec fs fw d' 0 (Nat.zero_le _)
  by_cases e : frst fs fw d 0 ≤ frst fs fw d' 0
  · exact e
  · have := h4 (frst fs fw d' 0) (Nat.zero_le _) (by omega)
    unfold fits at this h3'
    cases hr : rch fs (frst fs fw d' 0) fw with
    | none => rw [hr] at this; cases this
    | some m =>
      rw [hr] at this h3'
      have h5 := of_decide_eq_false this
      have h6 := of_decide_eq_true h3'
      omega
theorem rch_trn (fs : List Fm) (k : Nat) (fw : Bool) : rch (fs.map trn) k fw = rch fs k (!fw) := by
  unfold rch
  rw [List.getElem?_map, Option.map_map]
  congr 1
  funext f
  cases fw <;> rfl
theorem fits_trn (fs : List Fm) (k : Nat) (fw : Bool) (d : Int) : fits (fs.map trn) k fw d = fits fs k (!fw) d := by unfold fits; rw [rch_trn]
theorem frst_trn (fs : List Fm) (fw : Bool) (d : Int) : frst (fs.map trn) fw d 0 = frst fs (!fw) d 0 := by
  obtain ⟨_, h2, h3, h4⟩ := frst_spec (fs.map trn) fw d 0 (Nat.zero_le _)
  obtain ⟨_, h2', h3', h4'⟩ := frst_spec fs (!fw) d 0 (Nat.zero_le _)
  rw [fits_trn] at h3
  have a : ¬ frst (fs.map trn) fw d 0 < frst fs (!fw) d 0 := fun z => by rw [h4' _ (Nat.zero_le _) z] at h3; cases h3
  have b : ¬ frst fs (!fw) d 0 < frst (fs.map trn) fw d 0 := fun z => by have := h4 _ (Nat.zero_le _) z; rw [fits_trn, h3'] at this; cases this
  omega
theorem trn_trn (fs : List Fm) : (fs.map trn).map trn = fs := by
  rw [List.map_map]
  have : (trn ∘ trn) = id := by funext f; rfl
  rw [this, List.map_id]

theorem draw_run {n : Int} {Q : W → Prop} {E : Exn → Prop} (h0 : 0 < n) (h1 : n < 2 ^ 64) (h : ∀ r, 0 ≤ r → r < n → Q (.int r)) : (drawF [.opq 0, .int n] []).run Q E := by
  simp only [drawF, h0, h1, and_self, if_true]
  exact h
theorem law_ladder_ok (wide : Int) (h0 : 0 < wide) (h1 : wide < 2 ^ 64) : (f_law_ladder [.opq 0, .int wide] []).run (fun w => ∃ fs l, w = .tup [.tup (fs.map fW), .int l] ∧ LadOk fs l) (fun _ => False) := by
  simp only [f_law_ladder, g_law_ladder, e_elim_elim, e_elim_bind, e_bind_elim, e_bind_bind, e_elim_run, e_bind_run, e_kE, e_kB, e_kR, e_elim_pure, e_elim_throw, e_elim_bad, e_ofO_some, e_ofO_none, e_Mpure, e_Mbind, e_pure_bind, e_throw_bind, e_bad_bind, e_pure_run, e_throw_run, e_bad_run, e_exN, e_sq, e_sqK_next, e_sqK_ret, e_sqK_exc, e_sqK_brk, e_sqK_cont, e_nx, e_brkS, e_contS, e_rtN, e_retK, e_rtS, e_dropK, e_drp, e_ifS, e_ifK, e_nextO, e_nextN, e_asg, e_asgK, e_asgX, e_asgXK, e_asgF, e_asgFK, e_setK, e_binK1, e_binK2, e_bin, e_augI, e_forL_nil, e_forL_cons, e_forB, e_forK_next, e_forK_cont, e_forK_brk, e_forK_ret, e_forK_exc, e_forSK, e_forS, e_itemsK, e_itS, e_rng1N, e_rng1L, e_rng1, e_rng2, e_rng2K, e_rng2J, e_zipK, e_zipL, e_zipT, e_itZip, e_enumK, e_itEnum, e_accOf, e_appK2, e_appK, e_appS, e_extK2, e_extK, e_extS, e_objK, e_stK2, e_stK, e_stO, e_gv, e_gb, e_gvK, e_gbK, e_gbA, e_cw, e_un1K, e_un1, e_unFK, e_unF, e_un1MK, e_un1M, e_binMK2, e_binMK1, e_binM, e_eqDF, e_eqF_not, e_eqF_ins, e_lenF_ins, e_lenF_not, e_noX_pure, e_asBK, e_tst, e_truK, e_tru, e_notK, e_notT, e_andK, e_orK, e_andT, e_orT, e_notVK, e_notV, e_andVK, e_orVK, e_andV, e_orV, e_ifEK, e_ifE, e_isN, e_isNK_non, e_isNK_int, e_isNK_tup, e_isNK_lst, e_isNK_str, e_isNK_bl, e_isNK_ins, e_negK, e_neg1, e_chn, e_chnK1, e_chnK2, e_chnK3, e_aNil, e_consK2, e_consK, e_aCons, e_starK2, e_starK1, e_aStar, e_tupK, e_lstK1, e_dTup, e_dLst, e_lstK, e_lstF, e_frzF, e_frz, e_frzO, e_frzOv, e_frzOn, e_xNil, e_xK2, e_xVK, e_xFK, e_xV, e_xF, e_partK, e_pNone, e_pSome, e_slTK3, e_slTK2, e_slTK1, e_slT, e_slLK3, e_slLK3r, e_slLK2, e_slLK1, e_slL, e_revK, e_revL, e_compK, e_compE, e_compL_nil, e_compL_cons, e_cK1, e_cK2, e_cK3, e_cK4, e_own_no, e_own_none, e_own_v, e_own_acc, e_own_obj, e_yesT, e_callK2, e_callK1, e_callF, e_skK2, e_skK1, e_skK0, e_callSK, e_mthK3, e_mthK2, e_mthK1, e_methF, e_kwF, e_mkF, e_insK, e_insM, e_bindW, e_bindN, e_bindStar, e_badX, e_bodyM, e_bodyN, e_endF_ret, e_endF_next, e_endF_exc, e_endN_next, e_endN_exc, e_objOf, e_recv, e_fldW, e_look, e_fldK, e_fldO, e_isIns, e_isIns_int, e_isIns_bl, e_isIns_str, e_isIns_non, e_isIns_tup, e_isIns_lst, e_asBool, e_negBool, e_addI, e_addW, e_subI, e_ltI, e_leI, e_gtI, e_geI, e_mulW, e_modI, e_fdivI, e_powI, e_pow9, e_pow18, e_pow20, e_lenT, e_lenL, e_intI, e_intB, e_absW, e_tupleL, e_tupleT, e_itemsL, e_itemsT, e_ixL, e_ixT, e_allW, e_anyW, e_sumW, e_rsK, e_rsS, e_tryA, e_tryK_exc, e_tryK_next, e_tryK_ret, e_goneK_next, e_goneK_ret, e_try1, e_try1K_exc, e_try1K_next, e_try1K_ret, e_stopX_next, e_stopX_ret, e_clr_nil, e_clr_v, e_clr_no, e_clr_acc, e_own_xcp, e_xfF, e_xfK, List.getElem?_cons_zero, List.getElem?_cons_succ, List.getElem?_nil, List.set_cons_zero, List.set_cons_succ, List.map_cons, List.map_nil, List.length_cons, List.length_nil, List.cons_append, List.nil_append, List.append_nil, List.replicate, List.filterMap_cons, List.filterMap_nil, Option.map_some, Option.map_none, Option.some_or, Option.none_or, Option.bind_some, Option.bind_none, Nat.add_zero, Nat.zero_add, Nat.reduceAdd, Nat.reduceSub, Nat.reduceLT, Nat.reduceLeDiff, Nat.reduceMul, Nat.sub_zero, Nat.sub_self, if_true, if_false, reduceIte, decide_true, decide_false, Bool.not_true, Bool.not_false, Bool.true_and, Bool.and_true, Bool.false_and, Bool.and_false, Bool.true_or, Bool.or_true, Bool.false_or, Bool.or_false, and_true, true_and, and_false, false_and, or_true, true_or, or_false, false_or, not_true, not_false_iff, reduceCtorEq, eq_self, ne_eq, Bool.false_eq_true, Bool.true_eq_false, List.all_cons, List.all_nil, List.any_cons, List.any_nil, List.contains_cons, List.contains_nil, id_eq, startS, startN, sel, toN, toT, tsNil, tsCons, putX, wipeS, asLen, allW, anyW, sumW, asBools, asInts, max2W, min2W, bbT, isiW, tyN, String.reduceEq, String.reduceBEq, String.reduceNe, eqD_int, Bool.false_xor, Bool.true_xor, Bool.xor_false, Bool.xor_true, Int.reduceEq, Int.reduceLT, Int.reduceLE, Int.reduceAdd, Int.reduceSub, Int.reduceMul, Int.reduceNeg, Int.reducePow, Int.reduceToNat, Int.cast_ofNat_Int, Int.toNat_zero, Int.toNat_one, Int.toNat_natCast, decide_eq_true_eq, atI_lit, cutW_fromL, cutW_toL, cutW_midL, List.drop, List.take, beq_self_eq_true, elim_ite, bind_ite', ofStr_eq, ofStr_beq, zipW, sL, sLt]
  refine draw_run (by decide) (by decide) fun r r0 r1 => ?_
  obtain rfl | rfl | rfl : r = 0 ∨ r = 1 ∨ r = 2 := by omega
  · simp only [g_law_ladder_l1, rngW, List.range, List.range.loop, e_elim_elim, e_elim_bind, e_bind_elim, e_bind_bind, e_elim_run, e_bind_run, e_kE, e_kB, e_kR, e_elim_pure, e_elim_throw, e_elim_bad, e_ofO_some, e_ofO_none, e_Mpure, e_Mbind, e_pure_bind, e_throw_bind, e_bad_bind, e_pure_run, e_throw_run, e_bad_run, e_exN, e_sq, e_sqK_next, e_sqK_ret, e_sqK_exc, e_sqK_brk, e_sqK_cont, e_nx, e_brkS, e_contS, e_rtN, e_retK, e_rtS, e_dropK, e_drp, e_ifS, e_ifK, e_nextO, e_nextN, e_asg, e_asgK, e_asgX, e_asgXK, e_asgF, e_asgFK, e_setK, e_binK1, e_binK2, e_bin, e_augI, e_forL_nil, e_forL_cons, e_forB, e_forK_next, e_forK_cont, e_forK_brk, e_forK_ret, e_forK_exc, e_forSK, e_forS, e_itemsK, e_itS, e_rng1N, e_rng1L, e_rng1, e_rng2, e_rng2K, e_rng2J, e_zipK, e_zipL, e_zipT, e_itZip, e_enumK, e_itEnum, e_accOf, e_appK2, e_appK, e_appS, e_extK2, e_extK, e_extS, e_objK, e_stK2, e_stK, e_stO, e_gv, e_gb, e_gvK, e_gbK, e_gbA, e_cw, e_un1K, e_un1, e_unFK, e_unF, e_un1MK, e_un1M, e_binMK2, e_binMK1, e_binM, e_eqDF, e_eqF_not, e_eqF_ins, e_lenF_ins, e_lenF_not, e_noX_pure, e_asBK, e_tst, e_truK, e_tru, e_notK, e_notT, e_andK, e_orK, e_andT, e_orT, e_notVK, e_notV, e_andVK, e_orVK, e_andV, e_orV, e_ifEK, e_ifE, e_isN, e_isNK_non, e_isNK_int, e_isNK_tup, e_isNK_lst, e_isNK_str, e_isNK_bl, e_isNK_ins, e_negK, e_neg1, e_chn, e_chnK1, e_chnK2, e_chnK3, e_aNil, e_consK2, e_consK, e_aCons, e_starK2, e_starK1, e_aStar, e_tupK, e_lstK1, e_dTup, e_dLst, e_lstK, e_lstF, e_frzF, e_frz, e_frzO, e_frzOv, e_frzOn, e_xNil, e_xK2, e_xVK, e_xFK, e_xV, e_xF, e_partK, e_pNone, e_pSome, e_slTK3, e_slTK2, e_slTK1, e_slT, e_slLK3, e_slLK3r, e_slLK2, e_slLK1, e_slL, e_revK, e_revL, e_compK, e_compE, e_compL_nil, e_compL_cons, e_cK1, e_cK2, e_cK3, e_cK4, e_own_no, e_own_none, e_own_v, e_own_acc, e_own_obj, e_yesT, e_callK2, e_callK1, e_callF, e_skK2, e_skK1, e_skK0, e_callSK, e_mthK3, e_mthK2, e_mthK1, e_methF, e_kwF, e_mkF, e_insK, e_insM, e_bindW, e_bindN, e_bindStar, e_badX, e_bodyM, e_bodyN, e_endF_ret, e_endF_next, e_endF_exc, e_endN_next, e_endN_exc, e_objOf, e_recv, e_fldW, e_look, e_fldK, e_fldO, e_isIns, e_isIns_int, e_isIns_bl, e_isIns_str, e_isIns_non, e_isIns_tup, e_isIns_lst, e_asBool, e_negBool, e_addI, e_addW, e_subI, e_ltI, e_leI, e_gtI, e_geI, e_mulW, e_modI, e_fdivI, e_powI, e_pow9, e_pow18, e_pow20, e_lenT, e_lenL, e_intI, e_intB, e_absW, e_tupleL, e_tupleT, e_itemsL, e_itemsT, e_ixL, e_ixT, e_allW, e_anyW, e_sumW, e_rsK, e_rsS, e_tryA, e_tryK_exc, e_tryK_next, e_tryK_ret, e_goneK_next, e_goneK_ret, e_try1, e_try1K_exc, e_try1K_next, e_try1K_ret, e_stopX_next, e_stopX_ret, e_clr_nil, e_clr_v, e_clr_no, e_clr_acc, e_own_xcp, e_xfF, e_xfK, List.getElem?_cons_zero, List.getElem?_cons_succ, List.getElem?_nil, List.set_cons_zero, List.set_cons_succ, List.map_cons, List.map_nil, List.length_cons, List.length_nil, List.cons_append, List.nil_append, List.append_nil, List.replicate, List.filterMap_cons, List.filterMap_nil, Option.map_some, Option.map_none, Option.some_or, Option.none_or, Option.bind_some, Option.bind_none, Nat.add_zero, Nat.zero_add, Nat.reduceAdd, Nat.reduceSub, Nat.reduceLT, Nat.reduceLeDiff, Nat.reduceMul, Nat.sub_zero, Nat.sub_self, if_true, if_false, reduceIte, decide_true, decide_false, Bool.not_true, Bool.not_false, Bool.true_and, Bool.and_true, Bool.false_and, Bool.and_false, Bool.true_or, Bool.or_true, Bool.false_or, Bool.or_false, and_true, true_and, and_false, false_and, or_true, true_or, or_false, false_or, not_true, not_false_iff, reduceCtorEq, eq_self, ne_eq, Bool.false_eq_true, Bool.true_eq_false, List.all_cons, List.all_nil, List.any_cons, List.any_nil, List.contains_cons, List.contains_nil, id_eq, startS, startN, sel, toN, toT, tsNil, tsCons, putX, wipeS, asLen, allW, anyW, sumW, asBools, asInts, max2W, min2W, bbT, isiW, tyN, String.reduceEq, String.reduceBEq, String.reduceNe, eqD_int, Bool.false_xor, Bool.true_xor, Bool.xor_false, Bool.xor_true, Int.reduceEq, Int.reduceLT, Int.reduceLE, Int.reduceAdd, Int.reduceSub, Int.reduceMul, Int.reduceNeg, Int.reducePow, Int.reduceToNat, Int.cast_ofNat_Int, Int.toNat_zero, Int.toNat_one, Int.toNat_natCast, decide_eq_true_eq, atI_lit, cutW_fromL, cutW_toL, cutW_midL, List.drop, List.take, beq_self_eq_true, elim_ite, bind_ite', ofStr_eq, ofStr_beq, zipW, sL, sLt]
    refine draw_run (by decide) (by decide) fun s s0 s1 => ?_
    simp only [g_law_ladder_l1, rngW, List.range, List.range.loop, e_elim_elim, e_elim_bind, e_bind_elim, e_bind_bind, e_elim_run, e_bind_run, e_kE, e_kB, e_kR, e_elim_pure, e_elim_throw, e_elim_bad, e_ofO_some, e_ofO_none, e_Mpure, e_Mbind, e_pure_bind, e_throw_bind, e_bad_bind, e_pure_run, e_throw_run, e_bad_run, e_exN, e_sq, e_sqK_next, e_sqK_ret, e_sqK_exc, e_sqK_brk, e_sqK_cont, e_nx, e_brkS, e_contS, e_rtN, e_retK, e_rtS, e_dropK, e_drp, e_ifS, e_ifK, e_nextO, e_nextN, e_asg, e_asgK, e_asgX, e_asgXK, e_asgF, e_asgFK, e_setK, e_binK1, e_binK2, e_bin, e_augI, e_forL_nil, e_forL_cons, e_forB, e_forK_next, e_forK_cont, e_forK_brk, e_forK_ret, e_forK_exc, e_forSK, e_forS, e_itemsK, e_itS, e_rng1N, e_rng1L, e_rng1, e_rng2, e_rng2K, e_rng2J, e_zipK, e_zipL, e_zipT, e_itZip, e_enumK, e_itEnum, e_accOf, e_appK2, e_appK, e_appS, e_extK2, e_extK, e_extS, e_objK, e_stK2, e_stK, e_stO, e_gv, e_gb, e_gvK, e_gbK, e_gbA, e_cw, e_un1K, e_un1, e_unFK, e_unF, e_un1MK, e_un1M, e_binMK2, e_binMK1, e_binM, e_eqDF, e_eqF_not, e_eqF_ins, e_lenF_ins, e_lenF_not, e_noX_pure, e_asBK, e_tst, e_truK, e_tru, e_notK, e_notT, e_andK, e_orK, e_andT, e_orT, e_notVK, e_notV, e_andVK, e_orVK, e_andV, e_orV, e_ifEK, e_ifE, e_isN, e_isNK_non, e_isNK_int, e_isNK_tup, e_isNK_lst, e_isNK_str, e_isNK_bl, e_isNK_ins, e_negK, e_neg1, e_chn, e_chnK1, e_chnK2, e_chnK3, e_aNil, e_consK2, e_consK, e_aCons, e_starK2, e_starK1, e_aStar, e_tupK, e_lstK1, e_dTup, e_dLst, e_lstK, e_lstF, e_frzF, e_frz, e_frzO, e_frzOv, e_frzOn, e_xNil, e_xK2, e_xVK, e_xFK, e_xV, e_xF, e_partK, e_pNone, e_pSome, e_slTK3, e_slTK2, e_slTK1, e_slT, e_slLK3, e_slLK3r, e_slLK2, e_slLK1, e_slL, e_revK, e_revL, e_compK, e_compE, e_compL_nil, e_compL_cons, e_cK1, e_cK2, e_cK3, e_cK4, e_own_no, e_own_none, e_own_v, e_own_acc, e_own_obj, e_yesT, e_callK2, e_callK1, e_callF, e_skK2, e_skK1, e_skK0, e_callSK, e_mthK3, e_mthK2, e_mthK1, e_methF, e_kwF, e_mkF, e_insK, e_insM, e_bindW, e_bindN, e_bindStar, e_badX, e_bodyM, e_bodyN, e_endF_ret, e_endF_next, e_endF_exc, e_endN_next, e_endN_exc, e_objOf, e_recv, e_fldW, e_look, e_fldK, e_fldO, e_isIns, e_isIns_int, e_isIns_bl, e_isIns_str, e_isIns_non, e_isIns_tup, e_isIns_lst, e_asBool, e_negBool, e_addI, e_addW, e_subI, e_ltI, e_leI, e_gtI, e_geI, e_mulW, e_modI, e_fdivI, e_powI, e_pow9, e_pow18, e_pow20, e_lenT, e_lenL, e_intI, e_intB, e_absW, e_tupleL, e_tupleT, e_itemsL, e_itemsT, e_ixL, e_ixT, e_allW, e_anyW, e_sumW, e_rsK, e_rsS, e_tryA, e_tryK_exc, e_tryK_next, e_tryK_ret, e_goneK_next, e_goneK_ret, e_try1, e_try1K_exc, e_try1K_next, e_try1K_ret, e_stopX_next, e_stopX_ret, e_clr_nil, e_clr_v, e_clr_no, e_clr_acc, e_own_xcp, e_xfF, e_xfK, List.getElem?_cons_zero, List.getElem?_cons_succ, List.getElem?_nil, List.set_cons_zero, List.set_cons_succ, List.map_cons, List.map_nil, List.length_cons, List.length_nil, List.cons_append, List.nil_append, List.append_nil, List.replicate, List.filterMap_cons, List.filterMap_nil, Option.map_some, Option.map_none, Option.some_or, Option.none_or, Option.bind_some, Option.bind_none, Nat.add_zero, Nat.zero_add, Nat.reduceAdd, Nat.reduceSub, Nat.reduceLT, Nat.reduceLeDiff, Nat.reduceMul, Nat.sub_zero, Nat.sub_self, if_true, if_false, reduceIte, decide_true, decide_false, Bool.not_true, Bool.not_false, Bool.true_and, Bool.and_true, Bool.false_and, Bool.and_false, Bool.true_or, Bool.or_true, Bool.false_or, Bool.or_false, and_true, true_and, and_false, false_and, or_true, true_or, or_false, false_or, not_true, not_false_iff, reduceCtorEq, eq_self, ne_eq, Bool.false_eq_true, Bool.true_eq_false, List.all_cons, List.all_nil, List.any_cons, List.any_nil, List.contains_cons, List.contains_nil, id_eq, startS, startN, sel, toN, toT, tsNil, tsCons, putX, wipeS, asLen, allW, anyW, sumW, asBools, asInts, max2W, min2W, bbT, isiW, tyN, String.reduceEq, String.reduceBEq, String.reduceNe, eqD_int, Bool.false_xor, Bool.true_xor, Bool.xor_false, Bool.xor_true, Int.reduceEq, Int.reduceLT, Int.reduceLE, Int.reduceAdd, Int.reduceSub, Int.reduceMul, Int.reduceNeg, Int.reducePow, Int.reduceToNat, Int.cast_ofNat_Int, Int.toNat_zero, Int.toNat_one, Int.toNat_natCast, decide_eq_true_eq, atI_lit, cutW_fromL, cutW_toL, cutW_midL, List.drop, List.take, beq_self_eq_true, elim_ite, bind_ite', ofStr_eq, ofStr_beq, zipW, sL, sLt]
    exact ⟨[], _, rfl, by simp only [LadOk]; omega⟩
  · simp only [g_law_ladder_l1, rngW, List.range, List.range.loop, e_elim_elim, e_elim_bind, e_bind_elim, e_bind_bind, e_elim_run, e_bind_run, e_kE, e_kB, e_kR, e_elim_pure, e_elim_throw, e_elim_bad, e_ofO_some, e_ofO_none, e_Mpure, e_Mbind, e_pure_bind, e_throw_bind, e_bad_bind, e_pure_run, e_throw_run, e_bad_run, e_exN, e_sq, e_sqK_next, e_sqK_ret, e_sqK_exc, e_sqK_brk, e_sqK_cont, e_nx, e_brkS, e_contS, e_rtN, e_retK, e_rtS, e_dropK, e_drp, e_ifS, e_ifK, e_nextO, e_nextN, e_asg, e_asgK, e_asgX, e_asgXK, e_asgF, e_asgFK, e_setK, e_binK1, e_binK2, e_bin, e_augI, e_forL_nil, e_forL_cons, e_forB, e_forK_next, e_forK_cont, e_forK_brk, e_forK_ret, e_forK_exc, e_forSK, e_forS, e_itemsK, e_itS, e_rng1N, e_rng1L, e_rng1, e_rng2, e_rng2K, e_rng2J, e_zipK, e_zipL, e_zipT, e_itZip, e_enumK, e_itEnum, e_accOf, e_appK2, e_appK, e_appS, e_extK2, e_extK, e_extS, e_objK, e_stK2, e_stK, e_stO, e_gv, e_gb, e_gvK, e_gbK, e_gbA, e_cw, e_un1K, e_un1, e_unFK, e_unF, e_un1MK, e_un1M, e_binMK2, e_binMK1, e_binM, e_eqDF, e_eqF_not, e_eqF_ins, e_lenF_ins, e_lenF_not, e_noX_pure, e_asBK, e_tst, e_truK, e_tru, e_notK, e_notT, e_andK, e_orK, e_andT, e_orT, e_notVK, e_notV, e_andVK, e_orVK, e_andV, e_orV, e_ifEK, e_ifE, e_isN, e_isNK_non, e_isNK_int, e_isNK_tup, e_isNK_lst, e_isNK_str, e_isNK_bl, e_isNK_ins, e_negK, e_neg1, e_chn, e_chnK1, e_chnK2, e_chnK3, e_aNil, e_consK2, e_consK, e_aCons, e_starK2, e_starK1, e_aStar, e_tupK, e_lstK1, e_dTup, e_dLst, e_lstK, e_lstF, e_frzF, e_frz, e_frzO, e_frzOv, e_frzOn, e_xNil, e_xK2, e_xVK, e_xFK, e_xV, e_xF, e_partK, e_pNone, e_pSome, e_slTK3, e_slTK2, e_slTK1, e_slT, e_slLK3, e_slLK3r, e_slLK2, e_slLK1, e_slL, e_revK, e_revL, e_compK, e_compE, e_compL_nil, e_compL_cons, e_cK1, e_cK2, e_cK3, e_cK4, e_own_no, e_own_none, e_own_v, e_own_acc, e_own_obj, e_yesT, e_callK2, e_callK1, e_callF, e_skK2, e_skK1, e_skK0, e_callSK, e_mthK3, e_mthK2, e_mthK1, e_methF, e_kwF, e_mkF, e_insK, e_insM, e_bindW, e_bindN, e_bindStar, e_badX, e_bodyM, e_bodyN, e_endF_ret, e_endF_next, e_endF_exc, e_endN_next, e_endN_exc, e_objOf, e_recv, e_fldW, e_look, e_fldK, e_fldO, e_isIns, e_isIns_int, e_isIns_bl, e_isIns_str, e_isIns_non, e_isIns_tup, e_isIns_lst, e_asBool, e_negBool, e_addI, e_addW, e_subI, e_ltI, e_leI, e_gtI, e_geI, e_mulW, e_modI, e_fdivI, e_powI, e_pow9, e_pow18, e_pow20, e_lenT, e_lenL, e_intI, e_intB, e_absW, e_tupleL, e_tupleT, e_itemsL, e_itemsT, e_ixL, e_ixT, e_allW, e_anyW, e_sumW, e_rsK, e_rsS, e_tryA, e_tryK_exc, e_tryK_next, e_tryK_ret, e_goneK_next, e_goneK_ret, e_try1, e_try1K_exc, e_try1K_next, e_try1K_ret, e_stopX_next, e_stopX_ret, e_clr_nil, e_clr_v, e_clr_no, e_clr_acc, e_own_xcp, e_xfF, e_xfK, List.getElem?_cons_zero, List.getElem?_cons_succ, List.getElem?_nil, List.set_cons_zero, List.set_cons_succ, List.map_cons, List.map_nil, List.length_cons, List.length_nil, List.cons_append, List.nil_append, List.append_nil, List.replicate, List.filterMap_cons, List.filterMap_nil, Option.map_some, Option.map_none, Option.some_or, Option.none_or, Option.bind_some, Option.bind_none, Nat.add_zero, Nat.zero_add, Nat.reduceAdd, Nat.reduceSub, Nat.reduceLT, Nat.reduceLeDiff, Nat.reduceMul, Nat.sub_zero, Nat.sub_self, if_true, if_false, reduceIte, decide_true, decide_false, Bool.not_true, Bool.not_false, Bool.true_and, Bool.and_true, Bool.false_and, Bool.and_false, Bool.true_or, Bool.or_true, Bool.false_or, Bool.or_false, and_true, true_and, and_false, false_and, or_true, true_or, or_false, false_or, not_true, not_false_iff, reduceCtorEq, eq_self, ne_eq, Bool.false_eq_true, Bool.true_eq_false, List.all_cons, List.all_nil, List.any_cons, List.any_nil, List.contains_cons, List.contains_nil, id_eq, startS, startN, sel, toN, toT, tsNil, tsCons, putX, wipeS, asLen, allW, anyW, sumW, asBools, asInts, max2W, min2W, bbT, isiW, tyN, String.reduceEq, String.reduceBEq, String.reduceNe, eqD_int, Bool.false_xor, Bool.true_xor, Bool.xor_false, Bool.xor_true, Int.reduceEq, Int.reduceLT, Int.reduceLE, Int.reduceAdd, Int.reduceSub, Int.reduceMul, Int.reduceNeg, Int.reducePow, Int.reduceToNat, Int.cast_ofNat_Int, Int.toNat_zero, Int.toNat_one, Int.toNat_natCast, decide_eq_true_eq, atI_lit, cutW_fromL, cutW_toL, cutW_midL, List.drop, List.take, beq_self_eq_true, elim_ite, bind_ite', ofStr_eq, ofStr_beq, zipW, sL, sLt]
    refine draw_run (by decide) (by decide) fun s s0 s1 => ?_
    simp only [g_law_ladder_l1, rngW, List.range, List.range.loop, e_elim_elim, e_elim_bind, e_bind_elim, e_bind_bind, e_elim_run, e_bind_run, e_kE, e_kB, e_kR, e_elim_pure, e_elim_throw, e_elim_bad, e_ofO_some, e_ofO_none, e_Mpure, e_Mbind, e_pure_bind, e_throw_bind, e_bad_bind, e_pure_run, e_throw_run, e_bad_run, e_exN, e_sq, e_sqK_next, e_sqK_ret, e_sqK_exc, e_sqK_brk, e_sqK_cont, e_nx, e_brkS, e_contS, e_rtN, e_retK, e_rtS, e_dropK, e_drp, e_ifS, e_ifK, e_nextO, e_nextN, e_asg, e_asgK, e_asgX, e_asgXK, e_asgF, e_asgFK, e_setK, e_binK1, e_binK2, e_bin, e_augI, e_forL_nil, e_forL_cons, e_forB, e_forK_next, e_forK_cont, e_forK_brk, e_forK_ret, e_forK_exc, e_forSK, e_forS, e_itemsK, e_itS, e_rng1N, e_rng1L, e_rng1, e_rng2, e_rng2K, e_rng2J, e_zipK, e_zipL, e_zipT, e_itZip, e_enumK, e_itEnum, e_accOf, e_appK2, e_appK, e_appS, e_extK2, e_extK, e_extS, e_objK, e_stK2, e_stK, e_stO, e_gv, e_gb, e_gvK, e_gbK, e_gbA, e_cw, e_un1K, e_un1, e_unFK, e_unF, e_un1MK, e_un1M, e_binMK2, e_binMK1, e_binM, e_eqDF, e_eqF_not, e_eqF_ins, e_lenF_ins, e_lenF_not, e_noX_pure, e_asBK, e_tst, e_truK, e_tru, e_notK, e_notT, e_andK, e_orK, e_andT, e_orT, e_notVK, e_notV, e_andVK, e_orVK, e_andV, e_orV, e_ifEK, e_ifE, e_isN, e_isNK_non, e_isNK_int, e_isNK_tup, e_isNK_lst, e_isNK_str, e_isNK_bl, e_isNK_ins, e_negK, e_neg1, e_chn, e_chnK1, e_chnK2, e_chnK3, e_aNil, e_consK2, e_consK, e_aCons, e_starK2, e_starK1, e_aStar, e_tupK, e_lstK1, e_dTup, e_dLst, e_lstK, e_lstF, e_frzF, e_frz, e_frzO, e_frzOv, e_frzOn, e_xNil, e_xK2, e_xVK, e_xFK, e_xV, e_xF, e_partK, e_pNone, e_pSome, e_slTK3, e_slTK2, e_slTK1, e_slT, e_slLK3, e_slLK3r, e_slLK2, e_slLK1, e_slL, e_revK, e_revL, e_compK, e_compE, e_compL_nil, e_compL_cons, e_cK1, e_cK2, e_cK3, e_cK4, e_own_no, e_own_none, e_own_v, e_own_acc, e_own_obj, e_yesT, e_callK2, e_callK1, e_callF, e_skK2, e_skK1, e_skK0, e_callSK, e_mthK3, e_mthK2, e_mthK1, e_methF, e_kwF, e_mkF, e_insK, e_insM, e_bindW, e_bindN, e_bindStar, e_badX, e_bodyM, e_bodyN, e_endF_ret, e_endF_next, e_endF_exc, e_endN_next, e_endN_exc, e_objOf, e_recv, e_fldW, e_look, e_fldK, e_fldO, e_isIns, e_isIns_int, e_isIns_bl, e_isIns_str, e_isIns_non, e_isIns_tup, e_isIns_lst, e_asBool, e_negBool, e_addI, e_addW, e_subI, e_ltI, e_leI, e_gtI, e_geI, e_mulW, e_modI, e_fdivI, e_powI, e_pow9, e_pow18, e_pow20, e_lenT, e_lenL, e_intI, e_intB, e_absW, e_tupleL, e_tupleT, e_itemsL, e_itemsT, e_ixL, e_ixT, e_allW, e_anyW, e_sumW, e_rsK, e_rsS, e_tryA, e_tryK_exc, e_tryK_next, e_tryK_ret, e_goneK_next, e_goneK_ret, e_try1, e_try1K_exc, e_try1K_next, e_try1K_ret, e_stopX_next, e_stopX_ret, e_clr_nil, e_clr_v, e_clr_no, e_clr_acc, e_own_xcp, e_xfF, e_xfK, List.getElem?_cons_zero, List.getElem?_cons_succ, List.getElem?_nil, List.set_cons_zero, List.set_cons_succ, List.map_cons, List.map_nil, List.length_cons, List.length_nil, List.cons_append, List.nil_append, List.append_nil, List.replicate, List.filterMap_cons, List.filterMap_nil, Option.map_some, Option.map_none, Option.some_or, Option.none_or, Option.bind_some, Option.bind_none, Nat.add_zero, Nat.zero_add, Nat.reduceAdd, Nat.reduceSub, Nat.reduceLT, Nat.reduceLeDiff, Nat.reduceMul, Nat.sub_zero, Nat.sub_self, if_true, if_false, reduceIte, decide_true, decide_false, Bool.not_true, Bool.not_false, Bool.true_and, Bool.and_true, Bool.false_and, Bool.and_false, Bool.true_or, Bool.or_true, Bool.false_or, Bool.or_false, and_true, true_and, and_false, false_and, or_true, true_or, or_false, false_or, not_true, not_false_iff, reduceCtorEq, eq_self, ne_eq, Bool.false_eq_true, Bool.true_eq_false, List.all_cons, List.all_nil, List.any_cons, List.any_nil, List.contains_cons, List.contains_nil, id_eq, startS, startN, sel, toN, toT, tsNil, tsCons, putX, wipeS, asLen, allW, anyW, sumW, asBools, asInts, max2W, min2W, bbT, isiW, tyN, String.reduceEq, String.reduceBEq, String.reduceNe, eqD_int, Bool.false_xor, Bool.true_xor, Bool.xor_false, Bool.xor_true, Int.reduceEq, Int.reduceLT, Int.reduceLE, Int.reduceAdd, Int.reduceSub, Int.reduceMul, Int.reduceNeg, Int.reducePow, Int.reduceToNat, Int.cast_ofNat_Int, Int.toNat_zero, Int.toNat_one, Int.toNat_natCast, decide_eq_true_eq, atI_lit, cutW_fromL, cutW_toL, cutW_midL, List.drop, List.take, beq_self_eq_true, elim_ite, bind_ite', ofStr_eq, ofStr_beq, zipW, sL, sLt]
    refine draw_run h0 h1 fun b b0 b1 => ?_
    simp only [g_law_ladder_l1, rngW, List.range, List.range.loop, e_elim_elim, e_elim_bind, e_bind_elim, e_bind_bind, e_elim_run, e_bind_run, e_kE, e_kB, e_kR, e_elim_pure, e_elim_throw, e_elim_bad, e_ofO_some, e_ofO_none, e_Mpure, e_Mbind, e_pure_bind, e_throw_bind, e_bad_bind, e_pure_run, e_throw_run, e_bad_run, e_exN, e_sq, e_sqK_next, e_sqK_ret, e_sqK_exc, e_sqK_brk, e_sqK_cont, e_nx, e_brkS, e_contS, e_rtN, e_retK, e_rtS, e_dropK, e_drp, e_ifS, e_ifK, e_nextO, e_nextN, e_asg, e_asgK, e_asgX, e_asgXK, e_asgF, e_asgFK, e_setK, e_binK1, e_binK2, e_bin, e_augI, e_forL_nil, e_forL_cons, e_forB, e_forK_next, e_forK_cont, e_forK_brk, e_forK_ret, e_forK_exc, e_forSK, e_forS, e_itemsK, e_itS, e_rng1N, e_rng1L, e_rng1, e_rng2, e_rng2K, e_rng2J, e_zipK, e_zipL, e_zipT, e_itZip, e_enumK, e_itEnum, e_accOf, e_appK2, e_appK, e_appS, e_extK2, e_extK, e_extS, e_objK, e_stK2, e_stK, e_stO, e_gv, e_gb, e_gvK, e_gbK, e_gbA, e_cw, e_un1K, e_un1, e_unFK, e_unF, e_un1MK, e_un1M, e_binMK2, e_binMK1, e_binM, e_eqDF, e_eqF_not, e_eqF_ins, e_lenF_ins, e_lenF_not, e_noX_pure, e_asBK, e_tst, e_truK, e_tru, e_notK, e_notT, e_andK, e_orK, e_andT, e_orT, e_notVK, e_notV, e_andVK, e_orVK, e_andV, e_orV, e_ifEK, e_ifE, e_isN, e_isNK_non, e_isNK_int, e_isNK_tup, e_isNK_lst, e_isNK_str, e_isNK_bl, e_isNK_ins, e_negK, e_neg1, e_chn, e_chnK1, e_chnK2, e_chnK3, e_aNil, e_consK2, e_consK, e_aCons, e_starK2, e_starK1, e_aStar, e_tupK, e_lstK1, e_dTup, e_dLst, e_lstK, e_lstF, e_frzF, e_frz, e_frzO, e_frzOv, e_frzOn, e_xNil, e_xK2, e_xVK, e_xFK, e_xV, e_xF, e_partK, e_pNone, e_pSome, e_slTK3, e_slTK2, e_slTK1, e_slT, e_slLK3, e_slLK3r, e_slLK2, e_slLK1, e_slL, e_revK, e_revL, e_compK, e_compE, e_compL_nil, e_compL_cons, e_cK1, e_cK2, e_cK3, e_cK4, e_own_no, e_own_none, e_own_v, e_own_acc, e_own_obj, e_yesT, e_callK2, e_callK1, e_callF, e_skK2, e_skK1, e_skK0, e_callSK, e_mthK3, e_mthK2, e_mthK1, e_methF, e_kwF, e_mkF, e_insK, e_insM, e_bindW, e_bindN, e_bindStar, e_badX, e_bodyM, e_bodyN, e_endF_ret, e_endF_next, e_endF_exc, e_endN_next, e_endN_exc, e_objOf, e_recv, e_fldW, e_look, e_fldK, e_fldO, e_isIns, e_isIns_int, e_isIns_bl, e_isIns_str, e_isIns_non, e_isIns_tup, e_isIns_lst, e_asBool, e_negBool, e_addI, e_addW, e_subI, e_ltI, e_leI, e_gtI, e_geI, e_mulW, e_modI, e_fdivI, e_powI, e_pow9, e_pow18, e_pow20, e_lenT, e_lenL, e_intI, e_intB, e_absW, e_tupleL, e_tupleT, e_itemsL, e_itemsT, e_ixL, e_ixT, e_allW, e_anyW, e_sumW, e_rsK, e_rsS, e_tryA, e_tryK_exc, e_tryK_next, e_tryK_ret, e_goneK_next, e_goneK_ret, e_try1, e_try1K_exc, e_try1K_next, e_try1K_ret, e_stopX_next, e_stopX_ret, e_clr_nil, e_clr_v, e_clr_no, e_clr_acc, e_own_xcp, e_xfF, e_xfK, List.getElem?_cons_zero, List.getElem?_cons_succ, List.getElem?_nil, List.set_cons_zero, List.set_cons_succ, List.map_cons, List.map_nil, List.length_cons, List.length_nil, List.cons_append, List.nil_append, List.append_nil, List.replicate, List.filterMap_cons, List.filterMap_nil, Option.map_some, Option.map_none, Option.some_or, Option.none_or, Option.bind_some, Option.bind_none, Nat.add_zero, Nat.zero_add, Nat.reduceAdd, Nat.reduceSub, Nat.reduceLT, Nat.reduceLeDiff, Nat.reduceMul, Nat.sub_zero, Nat.sub_self, if_true, if_false, reduceIte, decide_true, decide_false, Bool.not_true, Bool.not_false, Bool.true_and, Bool.and_true, Bool.false_and, Bool.and_false, Bool.true_or, Bool.or_true, Bool.false_or, Bool.or_false, and_true, true_and, and_false, false_and, or_true, true_or, or_false, false_or, not_true, not_false_iff, reduceCtorEq, eq_self, ne_eq, Bool.false_eq_true, Bool.true_eq_false, List.all_cons, List.all_nil, List.any_cons, List.any_nil, List.contains_cons, List.contains_nil, id_eq, startS, startN, sel, toN, toT, tsNil, tsCons, putX, wipeS, asLen, allW, anyW, sumW, asBools, asInts, max2W, min2W, bbT, isiW, tyN, String.reduceEq, String.reduceBEq, String.reduceNe, eqD_int, Bool.false_xor, Bool.true_xor, Bool.xor_false, Bool.xor_true, Int.reduceEq, Int.reduceLT, Int.reduceLE, Int.reduceAdd, Int.reduceSub, Int.reduceMul, Int.reduceNeg, Int.reducePow, Int.reduceToNat, Int.cast_ofNat_Int, Int.toNat_zero, Int.toNat_one, Int.toNat_natCast, decide_eq_true_eq, atI_lit, cutW_fromL, cutW_toL, cutW_midL, List.drop, List.take, beq_self_eq_true, elim_ite, bind_ite', ofStr_eq, ofStr_beq, zipW, sL, sLt]
    refine draw_run h0 h1 fun a a0 a1 => ?_
    simp only [g_law_ladder_l1, rngW, List.range, List.range.loop, e_elim_elim, e_elim_bind, e_bind_elim, e_bind_bind, e_elim_run, e_bind_run, e_kE, e_kB, e_kR, e_elim_pure, e_elim_throw, e_elim_bad, e_ofO_some, e_ofO_none, e_Mpure, e_Mbind, e_pure_bind, e_throw_bind, e_bad_bind, e_pure_run, e_throw_run, e_bad_run, e_exN, e_sq, e_sqK_next, e_sqK_ret, e_sqK_exc, e_sqK_brk, e_sqK_cont, e_nx, e_brkS, e_contS, e_rtN, e_retK, e_rtS, e_dropK, e_drp, e_ifS, e_ifK, e_nextO, e_nextN, e_asg, e_asgK, e_asgX, e_asgXK, e_asgF, e_asgFK, e_setK, e_binK1, e_binK2, e_bin, e_augI, e_forL_nil, e_forL_cons, e_forB, e_forK_next, e_forK_cont, e_forK_brk, e_forK_ret, e_forK_exc, e_forSK, e_forS, e_itemsK, e_itS, e_rng1N, e_rng1L, e_rng1, e_rng2, e_rng2K, e_rng2J, e_zipK, e_zipL, e_zipT, e_itZip, e_enumK, e_itEnum, e_accOf, e_appK2, e_appK, e_appS, e_extK2, e_extK, e_extS, e_objK, e_stK2, e_stK, e_stO, e_gv, e_gb, e_gvK, e_gbK, e_gbA, e_cw, e_un1K, e_un1, e_unFK, e_unF, e_un1MK, e_un1M, e_binMK2, e_binMK1, e_binM, e_eqDF, e_eqF_not, e_eqF_ins, e_lenF_ins, e_lenF_not, e_noX_pure, e_asBK, e_tst, e_truK, e_tru, e_notK, e_notT, e_andK, e_orK, e_andT, e_orT, e_notVK, e_notV, e_andVK, e_orVK, e_andV, e_orV, e_ifEK, e_ifE, e_isN, e_isNK_non, e_isNK_int, e_isNK_tup, e_isNK_lst, e_isNK_str, e_isNK_bl, e_isNK_ins, e_negK, e_neg1, e_chn, e_chnK1, e_chnK2, e_chnK3, e_aNil, e_consK2, e_consK, e_aCons, e_starK2, e_starK1, e_aStar, e_tupK, e_lstK1, e_dTup, e_dLst, e_lstK, e_lstF, e_frzF, e_frz, e_frzO, e_frzOv, e_frzOn, e_xNil, e_xK2, e_xVK, e_xFK, e_xV, e_xF, e_partK, e_pNone, e_pSome, e_slTK3, e_slTK2, e_slTK1, e_slT, e_slLK3, e_slLK3r, e_slLK2, e_slLK1, e_slL, e_revK, e_revL, e_compK, e_compE, e_compL_nil, e_compL_cons, e_cK1, e_cK2, e_cK3, e_cK4, e_own_no, e_own_none, e_own_v, e_own_acc, e_own_obj, e_yesT, e_callK2, e_callK1, e_callF, e_skK2, e_skK1, e_skK0, e_callSK, e_mthK3, e_mthK2, e_mthK1, e_methF, e_kwF, e_mkF, e_insK, e_insM, e_bindW, e_bindN, e_bindStar, e_badX, e_bodyM, e_bodyN, e_endF_ret, e_endF_next, e_endF_exc, e_endN_next, e_endN_exc, e_objOf, e_recv, e_fldW, e_look, e_fldK, e_fldO, e_isIns, e_isIns_int, e_isIns_bl, e_isIns_str, e_isIns_non, e_isIns_tup, e_isIns_lst, e_asBool, e_negBool, e_addI, e_addW, e_subI, e_ltI, e_leI, e_gtI, e_geI, e_mulW, e_modI, e_fdivI, e_powI, e_pow9, e_pow18, e_pow20, e_lenT, e_lenL, e_intI, e_intB, e_absW, e_tupleL, e_tupleT, e_itemsL, e_itemsT, e_ixL, e_ixT, e_allW, e_anyW, e_sumW, e_rsK, e_rsS, e_tryA, e_tryK_exc, e_tryK_next, e_tryK_ret, e_goneK_next, e_goneK_ret, e_try1, e_try1K_exc, e_try1K_next, e_try1K_ret, e_stopX_next, e_stopX_ret, e_clr_nil, e_clr_v, e_clr_no, e_clr_acc, e_own_xcp, e_xfF, e_xfK, List.getElem?_cons_zero, List.getElem?_cons_succ, List.getElem?_nil, List.set_cons_zero, List.set_cons_succ, List.map_cons, List.map_nil, List.length_cons, List.length_nil, List.cons_append, List.nil_append, List.append_nil, List.replicate, List.filterMap_cons, List.filterMap_nil, Option.map_some, Option.map_none, Option.some_or, Option.none_or, Option.bind_some, Option.bind_none, Nat.add_zero, Nat.zero_add, Nat.reduceAdd, Nat.reduceSub, Nat.reduceLT, Nat.reduceLeDiff, Nat.reduceMul, Nat.sub_zero, Nat.sub_self, if_true, if_false, reduceIte, decide_true, decide_false, Bool.not_true, Bool.not_false, Bool.true_and, Bool.and_true, Bool.false_and, Bool.and_false, Bool.true_or, Bool.or_true, Bool.false_or, Bool.or_false, and_true, true_and, and_false, false_and, or_true, true_or, or_false, false_or, not_true, not_false_iff, reduceCtorEq, eq_self, ne_eq, Bool.false_eq_true, Bool.true_eq_false, List.all_cons, List.all_nil, List.any_cons, List.any_nil, List.contains_cons, List.contains_nil, id_eq, startS, startN, sel, toN, toT, tsNil, tsCons, putX, wipeS, asLen, allW, anyW, sumW, asBools, asInts, max2W, min2W, bbT, isiW, tyN, String.reduceEq, String.reduceBEq, String.reduceNe, eqD_int, Bool.false_xor, Bool.true_xor, Bool.xor_false, Bool.xor_true, Int.reduceEq, Int.reduceLT, Int.reduceLE, Int.reduceAdd, Int.reduceSub, Int.reduceMul, Int.reduceNeg, Int.reducePow, Int.reduceToNat, Int.cast_ofNat_Int, Int.toNat_zero, Int.toNat_one, Int.toNat_natCast, decide_eq_true_eq, atI_lit, cutW_fromL, cutW_toL, cutW_midL, List.drop, List.take, beq_self_eq_true, elim_ite, bind_ite', ofStr_eq, ofStr_beq, zipW, sL, sLt]
    refine draw_run (by decide) (by decide) fun t t0 t1 => ?_
    simp only [g_law_ladder_l1, rngW, List.range, List.range.loop, e_elim_elim, e_elim_bind, e_bind_elim, e_bind_bind, e_elim_run, e_bind_run, e_kE, e_kB, e_kR, e_elim_pure, e_elim_throw, e_elim_bad, e_ofO_some, e_ofO_none, e_Mpure, e_Mbind, e_pure_bind, e_throw_bind, e_bad_bind, e_pure_run, e_throw_run, e_bad_run, e_exN, e_sq, e_sqK_next, e_sqK_ret, e_sqK_exc, e_sqK_brk, e_sqK_cont, e_nx, e_brkS, e_contS, e_rtN, e_retK, e_rtS, e_dropK, e_drp, e_ifS, e_ifK, e_nextO, e_nextN, e_asg, e_asgK, e_asgX, e_asgXK, e_asgF, e_asgFK, e_setK, e_binK1, e_binK2, e_bin, e_augI, e_forL_nil, e_forL_cons, e_forB, e_forK_next, e_forK_cont, e_forK_brk, e_forK_ret, e_forK_exc, e_forSK, e_forS, e_itemsK, e_itS, e_rng1N, e_rng1L, e_rng1, e_rng2, e_rng2K, e_rng2J, e_zipK, e_zipL, e_zipT, e_itZip, e_enumK, e_itEnum, e_accOf, e_appK2, e_appK, e_appS, e_extK2, e_extK, e_extS, e_objK, e_stK2, e_stK, e_stO, e_gv, e_gb, e_gvK, e_gbK, e_gbA, e_cw, e_un1K, e_un1, e_unFK, e_unF, e_un1MK, e_un1M, e_binMK2, e_binMK1, e_binM, e_eqDF, e_eqF_not, e_eqF_ins, e_lenF_ins, e_lenF_not, e_noX_pure, e_asBK, e_tst, e_truK, e_tru, e_notK, e_notT, e_andK, e_orK, e_andT, e_orT, e_notVK, e_notV, e_andVK, e_orVK, e_andV, e_orV, e_ifEK, e_ifE, e_isN, e_isNK_non, e_isNK_int, e_isNK_tup, e_isNK_lst, e_isNK_str, e_isNK_bl, e_isNK_ins, e_negK, e_neg1, e_chn, e_chnK1, e_chnK2, e_chnK3, e_aNil, e_consK2, e_consK, e_aCons, e_starK2, e_starK1, e_aStar, e_tupK, e_lstK1, e_dTup, e_dLst, e_lstK, e_lstF, e_frzF, e_frz, e_frzO, e_frzOv, e_frzOn, e_xNil, e_xK2, e_xVK, e_xFK, e_xV, e_xF, e_partK, e_pNone, e_pSome, e_slTK3, e_slTK2, e_slTK1, e_slT, e_slLK3, e_slLK3r, e_slLK2, e_slLK1, e_slL, e_revK, e_revL, e_compK, e_compE, e_compL_nil, e_compL_cons, e_cK1, e_cK2, e_cK3, e_cK4, e_own_no, e_own_none, e_own_v, e_own_acc, e_own_obj, e_yesT, e_callK2, e_callK1, e_callF, e_skK2, e_skK1, e_skK0, e_callSK, e_mthK3, e_mthK2, e_mthK1, e_methF, e_kwF, e_mkF, e_insK, e_insM, e_bindW, e_bindN, e_bindStar, e_badX, e_bodyM, e_bodyN, e_endF_ret, e_endF_next, e_endF_exc, e_endN_next, e_endN_exc, e_objOf, e_recv, e_fldW, e_look, e_fldK, e_fldO, e_isIns, e_isIns_int, e_isIns_bl, e_isIns_str, e_isIns_non, e_isIns_tup, e_isIns_lst, e_asBool, e_negBool, e_addI, e_addW, e_subI, e_ltI, e_leI, e_gtI, e_geI, e_mulW, e_modI, e_fdivI, e_powI, e_pow9, e_pow18, e_pow20, e_lenT, e_lenL, e_intI, e_intB, e_absW, e_tupleL, e_tupleT, e_itemsL, e_itemsT, e_ixL, e_ixT, e_allW, e_anyW, e_sumW, e_rsK, e_rsS, e_tryA, e_tryK_exc, e_tryK_next, e_tryK_ret, e_goneK_next, e_goneK_ret, e_try1, e_try1K_exc, e_try1K_next, e_try1K_ret, e_stopX_next, e_stopX_ret, e_clr_nil, e_clr_v, e_clr_no, e_clr_acc, e_own_xcp, e_xfF, e_xfK, List.getElem?_cons_zero, List.getElem?_cons_succ, List.getElem?_nil, List.set_cons_zero, List.set_cons_succ, List.map_cons, List.map_nil, List.length_cons, List.length_nil, List.cons_append, List.nil_append, List.append_nil, List.replicate, List.filterMap_cons, List.filterMap_nil, Option.map_some, Option.map_none, Option.some_or, Option.none_or, Option.bind_some, Option.bind_none, Nat.add_zero, Nat.zero_add, Nat.reduceAdd, Nat.reduceSub, Nat.reduceLT, Nat.reduceLeDiff, Nat.reduceMul, Nat.sub_zero, Nat.sub_self, if_true, if_false, reduceIte, decide_true, decide_false, Bool.not_true, Bool.not_false, Bool.true_and, Bool.and_true, Bool.false_and, Bool.and_false, Bool.true_or, Bool.or_true, Bool.false_or, Bool.or_false, and_true, true_and, and_false, false_and, or_true, true_or, or_false, false_or, not_true, not_false_iff, reduceCtorEq, eq_self, ne_eq, Bool.false_eq_true, Bool.true_eq_false, List.all_cons, List.all_nil, List.any_cons, List.any_nil, List.contains_cons, List.contains_nil, id_eq, startS, startN, sel, toN, toT, tsNil, tsCons, putX, wipeS, asLen, allW, anyW, sumW, asBools, asInts, max2W, min2W, bbT, isiW, tyN, String.reduceEq, String.reduceBEq, String.reduceNe, eqD_int, Bool.false_xor, Bool.true_xor, Bool.xor_false, Bool.xor_true, Int.reduceEq, Int.reduceLT, Int.reduceLE, Int.reduceAdd, Int.reduceSub, Int.reduceMul, Int.reduceNeg, Int.reducePow, Int.reduceToNat, Int.cast_ofNat_Int, Int.toNat_zero, Int.toNat_one, Int.toNat_natCast, decide_eq_true_eq, atI_lit, cutW_fromL, cutW_toL, cutW_midL, List.drop, List.take, beq_self_eq_true, elim_ite, bind_ite', ofStr_eq, ofStr_beq, zipW, sL, sLt]
    exact ⟨[(_, _, _)], _, rfl, by simp only [LadOk]; omega⟩
  · simp only [g_law_ladder_l1, rngW, List.range, List.range.loop, e_elim_elim, e_elim_bind, e_bind_elim, e_bind_bind, e_elim_run, e_bind_run, e_kE, e_kB, e_kR, e_elim_pure, e_elim_throw, e_elim_bad, e_ofO_some, e_ofO_none, e_Mpure, e_Mbind, e_pure_bind, e_throw_bind, e_bad_bind, e_pure_run, e_throw_run, e_bad_run, e_exN, e_sq, e_sqK_next, e_sqK_ret, e_sqK_exc, e_sqK_brk, e_sqK_cont, e_nx, e_brkS, e_contS, e_rtN, e_retK, e_rtS, e_dropK, e_drp, e_ifS, e_ifK, e_nextO, e_nextN, e_asg, e_asgK, e_asgX, e_asgXK, e_asgF, e_asgFK, e_setK, e_binK1, e_binK2, e_bin, e_augI, e_forL_nil, e_forL_cons, e_forB, e_forK_next, e_forK_cont, e_forK_brk, e_forK_ret, e_forK_exc, e_forSK, e_forS, e_itemsK, e_itS, e_rng1N, e_rng1L, e_rng1, e_rng2, e_rng2K, e_rng2J, e_zipK, e_zipL, e_zipT, e_itZip, e_enumK, e_itEnum, e_accOf, e_appK2, e_appK, e_appS, e_extK2, e_extK, e_extS, e_objK, e_stK2, e_stK, e_stO, e_gv, e_gb, e_gvK, e_gbK, e_gbA, e_cw, e_un1K, e_un1, e_unFK, e_unF, e_un1MK, e_un1M, e_binMK2, e_binMK1, e_binM, e_eqDF, e_eqF_not, e_eqF_ins, e_lenF_ins, e_lenF_not, e_noX_pure, e_asBK, e_tst, e_truK, e_tru, e_notK, e_notT, e_andK, e_orK, e_andT, e_orT, e_notVK, e_notV, e_andVK, e_orVK, e_andV, e_orV, e_ifEK, e_ifE, e_isN, e_isNK_non, e_isNK_int, e_isNK_tup, e_isNK_lst, e_isNK_str, e_isNK_bl, e_isNK_ins, e_negK, e_neg1, e_chn, e_chnK1, e_chnK2, e_chnK3, e_aNil, e_consK2, e_consK, e_aCons, e_starK2, e_starK1, e_aStar, e_tupK, e_lstK1, e_dTup, e_dLst, e_lstK, e_lstF, e_frzF, e_frz, e_frzO, e_frzOv, e_frzOn, e_xNil, e_xK2, e_xVK, e_xFK, e_xV, e_xF, e_partK, e_pNone, e_pSome, e_slTK3, e_slTK2, e_slTK1, e_slT, e_slLK3, e_slLK3r, e_slLK2, e_slLK1, e_slL, e_revK, e_revL, e_compK, e_compE, e_compL_nil, e_compL_cons, e_cK1, e_cK2, e_cK3, e_cK4, e_own_no, e_own_none, e_own_v, e_own_acc, e_own_obj, e_yesT, e_callK2, e_callK1, e_callF, e_skK2, e_skK1, e_skK0, e_callSK, e_mthK3, e_mthK2, e_mthK1, e_methF, e_kwF, e_mkF, e_insK, e_insM, e_bindW, e_bindN, e_bindStar, e_badX, e_bodyM, e_bodyN, e_endF_ret, e_endF_next, e_endF_exc, e_endN_next, e_endN_exc, e_objOf, e_recv, e_fldW, e_look, e_fldK, e_fldO, e_isIns, e_isIns_int, e_isIns_bl, e_isIns_str, e_isIns_non, e_isIns_tup, e_isIns_lst, e_asBool, e_negBool, e_addI, e_addW, e_subI, e_ltI, e_leI, e_gtI, e_geI, e_mulW, e_modI, e_fdivI, e_powI, e_pow9, e_pow18, e_pow20, e_lenT, e_lenL, e_intI, e_intB, e_absW, e_tupleL, e_tupleT, e_itemsL, e_itemsT, e_ixL, e_ixT, e_allW, e_anyW, e_sumW, e_rsK, e_rsS, e_tryA, e_tryK_exc, e_tryK_next, e_tryK_ret, e_goneK_next, e_goneK_ret, e_try1, e_try1K_exc, e_try1K_next, e_try1K_ret, e_stopX_next, e_stopX_ret, e_clr_nil, e_clr_v, e_clr_no, e_clr_acc, e_own_xcp, e_xfF, e_xfK, List.getElem?_cons_zero, List.getElem?_cons_succ, List.getElem?_nil, List.set_cons_zero, List.set_cons_succ, List.map_cons, List.map_nil, List.length_cons, List.length_nil, List.cons_append, List.nil_append, List.append_nil, List.replicate, List.filterMap_cons, List.filterMap_nil, Option.map_some, Option.map_none, Option.some_or, Option.none_or, Option.bind_some, Option.bind_none, Nat.add_zero, Nat.zero_add, Nat.reduceAdd, Nat.reduceSub, Nat.reduceLT, Nat.reduceLeDiff, Nat.reduceMul, Nat.sub_zero, Nat.sub_self, if_true, if_false, reduceIte, decide_true, decide_false, Bool.not_true, Bool.not_false, Bool.true_and, Bool.and_true, Bool.false_and, Bool.and_false, Bool.true_or, Bool.or_true, Bool.false_or, Bool.or_false, and_true, true_and, and_false, false_and, or_true, true_or, or_false, false_or, not_true, not_false_iff, reduceCtorEq, eq_self, ne_eq, Bool.false_eq_true, Bool.true_eq_false, List.all_cons, List.all_nil, List.any_cons, List.any_nil, List.contains_cons, List.contains_nil, id_eq, startS, startN, sel, toN, toT, tsNil, tsCons, putX, wipeS, asLen, allW, anyW, sumW, asBools, asInts, max2W, min2W, bbT, isiW, tyN, String.reduceEq, String.reduceBEq, String.reduceNe, eqD_int, Bool.false_xor, Bool.true_xor, Bool.xor_false, Bool.xor_true, Int.reduceEq, Int.reduceLT, Int.reduceLE, Int.reduceAdd, Int.reduceSub, Int.reduceMul, Int.reduceNeg, Int.reducePow, Int.reduceToNat, Int.cast_ofNat_Int, Int.toNat_zero, Int.toNat_one, Int.toNat_natCast, decide_eq_true_eq, atI_lit, cutW_fromL, cutW_toL, cutW_midL, List.drop, List.take, beq_self_eq_true, elim_ite, bind_ite', ofStr_eq, ofStr_beq, zipW, sL, sLt]
    refine draw_run (by decide) (by decide) fun s s0 s1 => ?_
    simp only [g_law_ladder_l1, rngW, List.range, List.range.loop, e_elim_elim, e_elim_bind, e_bind_elim, e_bind_bind, e_elim_run, e_bind_run, e_kE, e_kB, e_kR, e_elim_pure, e_elim_throw, e_elim_bad, e_ofO_some, e_ofO_none, e_Mpure, e_Mbind, e_pure_bind, e_throw_bind, e_bad_bind, e_pure_run, e_throw_run, e_bad_run, e_exN, e_sq, e_sqK_next, e_sqK_ret, e_sqK_exc, e_sqK_brk, e_sqK_cont, e_nx, e_brkS, e_contS, e_rtN, e_retK, e_rtS, e_dropK, e_drp, e_ifS, e_ifK, e_nextO, e_nextN, e_asg, e_asgK, e_asgX, e_asgXK, e_asgF, e_asgFK, e_setK, e_binK1, e_binK2, e_bin, e_augI, e_forL_nil, e_forL_cons, e_forB, e_forK_next, e_forK_cont, e_forK_brk, e_forK_ret, e_forK_exc, e_forSK, e_forS, e_itemsK, e_itS, e_rng1N, e_rng1L, e_rng1, e_rng2, e_rng2K, e_rng2J, e_zipK, e_zipL, e_zipT, e_itZip, e_enumK, e_itEnum, e_accOf, e_appK2, e_appK, e_appS, e_extK2, e_extK, e_extS, e_objK, e_stK2, e_stK, e_stO, e_gv, e_gb, e_gvK, e_gbK, e_gbA, e_cw, e_un1K, e_un1, e_unFK, e_unF, e_un1MK, e_un1M, e_binMK2, e_binMK1, e_binM, e_eqDF, e_eqF_not, e_eqF_ins, e_lenF_ins, e_lenF_not, e_noX_pure, e_asBK, e_tst, e_truK, e_tru, e_notK, e_notT, e_andK, e_orK, e_andT, e_orT, e_notVK, e_notV, e_andVK, e_orVK, e_andV, e_orV, e_ifEK, e_ifE, e_isN, e_isNK_non, e_isNK_int, e_isNK_tup, e_isNK_lst, e_isNK_str, e_isNK_bl, e_isNK_ins, e_negK, e_neg1, e_chn, e_chnK1, e_chnK2, e_chnK3, e_aNil, e_consK2, e_consK, e_aCons, e_starK2, e_starK1, e_aStar, e_tupK, e_lstK1, e_dTup, e_dLst, e_lstK, e_lstF, e_frzF, e_frz, e_frzO, e_frzOv, e_frzOn, e_xNil, e_xK2, e_xVK, e_xFK, e_xV, e_xF, e_partK, e_pNone, e_pSome, e_slTK3, e_slTK2, e_slTK1, e_slT, e_slLK3, e_slLK3r, e_slLK2, e_slLK1, e_slL, e_revK, e_revL, e_compK, e_compE, e_compL_nil, e_compL_cons, e_cK1, e_cK2, e_cK3, e_cK4, e_own_no, e_own_none, e_own_v, e_own_acc, e_own_obj, e_yesT, e_callK2, e_callK1, e_callF, e_skK2, e_skK1, e_skK0, e_callSK, e_mthK3, e_mthK2, e_mthK1, e_methF, e_kwF, e_mkF, e_insK, e_insM, e_bindW, e_bindN, e_bindStar, e_badX, e_bodyM, e_bodyN, e_endF_ret, e_endF_next, e_endF_exc, e_endN_next, e_endN_exc, e_objOf, e_recv, e_fldW, e_look, e_fldK, e_fldO, e_isIns, e_isIns_int, e_isIns_bl, e_isIns_str, e_isIns_non, e_isIns_tup, e_isIns_lst, e_asBool, e_negBool, e_addI, e_addW, e_subI, e_ltI, e_leI, e_gtI, e_geI, e_mulW, e_modI, e_fdivI, e_powI, e_pow9, e_pow18, e_pow20, e_lenT, e_lenL, e_intI, e_intB, e_absW, e_tupleL, e_tupleT, e_itemsL, e_itemsT, e_ixL, e_ixT, e_allW, e_anyW, e_sumW, e_rsK, e_rsS, e_tryA, e_tryK_exc, e_tryK_next, e_tryK_ret, e_goneK_next, e_goneK_ret, e_try1, e_try1K_exc, e_try1K_next, e_try1K_ret, e_stopX_next, e_stopX_ret, e_clr_nil, e_clr_v, e_clr_no, e_clr_acc, e_own_xcp, e_xfF, e_xfK, List.getElem?_cons_zero, List.getElem?_cons_succ, List.getElem?_nil, List.set_cons_zero, List.set_cons_succ, List.map_cons, List.map_nil, List.length_cons, List.length_nil, List.cons_append, List.nil_append, List.append_nil, List.replicate, List.filterMap_cons, List.filterMap_nil, Option.map_some, Option.map_none, Option.some_or, Option.none_or, Option.bind_some, Option.bind_none, Nat.add_zero, Nat.zero_add, Nat.reduceAdd, Nat.reduceSub, Nat.reduceLT, Nat.reduceLeDiff, Nat.reduceMul, Nat.sub_zero, Nat.sub_self, if_true, if_false, reduceIte, decide_true, decide_false, Bool.not_true, Bool.not_false, Bool.true_and, Bool.and_true, Bool.false_and, Bool.and_false, Bool.true_or, Bool.or_true, Bool.false_or, Bool.or_false, and_true, true_and, and_false, false_and, or_true, true_or, or_false, false_or, not_true, not_false_iff, reduceCtorEq, eq_self, ne_eq, Bool.false_eq_true, Bool.true_eq_false, List.all_cons, List.all_nil, List.any_cons, List.any_nil, List.contains_cons, List.contains_nil, id_eq, startS, startN, sel, toN, toT, tsNil, tsCons, putX, wipeS, asLen, allW, anyW, sumW, asBools, asInts, max2W, min2W, bbT, isiW, tyN, String.reduceEq, String.reduceBEq, String.reduceNe, eqD_int, Bool.false_xor, Bool.true_xor, Bool.xor_false, Bool.xor_true, Int.reduceEq, Int.reduceLT, Int.reduceLE, Int.reduceAdd, Int.reduceSub, Int.reduceMul, Int.reduceNeg, Int.reducePow, Int.reduceToNat, Int.cast_ofNat_Int, Int.toNat_zero, Int.toNat_one, Int.toNat_natCast, decide_eq_true_eq, atI_lit, cutW_fromL, cutW_toL, cutW_midL, List.drop, List.take, beq_self_eq_true, elim_ite, bind_ite', ofStr_eq, ofStr_beq, zipW, sL, sLt]
    refine draw_run h0 h1 fun b b0 b1 => ?_
    simp only [g_law_ladder_l1, rngW, List.range, List.range.loop, e_elim_elim, e_elim_bind, e_bind_elim, e_bind_bind, e_elim_run, e_bind_run, e_kE, e_kB, e_kR, e_elim_pure, e_elim_throw, e_elim_bad, e_ofO_some, e_ofO_none, e_Mpure, e_Mbind, e_pure_bind, e_throw_bind, e_bad_bind, e_pure_run, e_throw_run, e_bad_run, e_exN, e_sq, e_sqK_next, e_sqK_ret, e_sqK_exc, e_sqK_brk, e_sqK_cont, e_nx, e_brkS, e_contS, e_rtN, e_retK, e_rtS, e_dropK, e_drp, e_ifS, e_ifK, e_nextO, e_nextN, e_asg, e_asgK, e_asgX, e_asgXK, e_asgF, e_asgFK, e_setK, e_binK1, e_binK2, e_bin, e_augI, e_forL_nil, e_forL_cons, e_forB, e_forK_next, e_forK_cont, e_forK_brk, e_forK_ret, e_forK_exc, e_forSK, e_forS, e_itemsK, e_itS, e_rng1N, e_rng1L, e_rng1, e_rng2, e_rng2K, e_rng2J, e_zipK, e_zipL, e_zipT, e_itZip, e_enumK, e_itEnum, e_accOf, e_appK2, e_appK, e_appS, e_extK2, e_extK, e_extS, e_objK, e_stK2, e_stK, e_stO, e_gv, e_gb, e_gvK, e_gbK, e_gbA, e_cw, e_un1K, e_un1, e_unFK, e_unF, e_un1MK, e_un1M, e_binMK2, e_binMK1, e_binM, e_eqDF, e_eqF_not, e_eqF_ins, e_lenF_ins, e_lenF_not, e_noX_pure, e_asBK, e_tst, e_truK, e_tru, e_notK, e_notT, e_andK, e_orK, e_andT, e_orT, e_notVK, e_notV, e_andVK, e_orVK, e_andV, e_orV, e_ifEK, e_ifE, e_isN, e_isNK_non, e_isNK_int, e_isNK_tup, e_isNK_lst, e_isNK_str, e_isNK_bl, e_isNK_ins, e_negK, e_neg1, e_chn, e_chnK1, e_chnK2, e_chnK3, e_aNil, e_consK2, e_consK, e_aCons, e_starK2, e_starK1, e_aStar, e_tupK, e_lstK1, e_dTup, e_dLst, e_lstK, e_lstF, e_frzF, e_frz, e_frzO, e_frzOv, e_frzOn, e_xNil, e_xK2, e_xVK, e_xFK, e_xV, e_xF, e_partK, e_pNone, e_pSome, e_slTK3, e_slTK2, e_slTK1, e_slT, e_slLK3, e_slLK3r, e_slLK2, e_slLK1, e_slL, e_revK, e_revL, e_compK, e_compE, e_compL_nil, e_compL_cons, e_cK1, e_cK2, e_cK3, e_cK4, e_own_no, e_own_none, e_own_v, e_own_acc, e_own_obj, e_yesT, e_callK2, e_callK1, e_callF, e_skK2, e_skK1, e_skK0, e_callSK, e_mthK3, e_mthK2, e_mthK1, e_methF, e_kwF, e_mkF, e_insK, e_insM, e_bindW, e_bindN, e_bindStar, e_badX, e_bodyM, e_bodyN, e_endF_ret, e_endF_next, e_endF_exc, e_endN_next, e_endN_exc, e_objOf, e_recv, e_fldW, e_look, e_fldK, e_fldO, e_isIns, e_isIns_int, e_isIns_bl, e_isIns_str, e_isIns_non, e_isIns_tup, e_isIns_lst, e_asBool, e_negBool, e_addI, e_addW, e_subI, e_ltI, e_leI, e_gtI, e_geI, e_mulW, e_modI, e_fdivI, e_powI, e_pow9, e_pow18, e_pow20, e_lenT, e_lenL, e_intI, e_intB, e_absW, e_tupleL, e_tupleT, e_itemsL, e_itemsT, e_ixL, e_ixT, e_allW, e_anyW, e_sumW, e_rsK, e_rsS, e_tryA, e_tryK_exc, e_tryK_next, e_tryK_ret, e_goneK_next, e_goneK_ret, e_try1, e_try1K_exc, e_try1K_next, e_try1K_ret, e_stopX_next, e_stopX_ret, e_clr_nil, e_clr_v, e_clr_no, e_clr_acc, e_own_xcp, e_xfF, e_xfK, List.getElem?_cons_zero, List.getElem?_cons_succ, List.getElem?_nil, List.set_cons_zero, List.set_cons_succ, List.map_cons, List.map_nil, List.length_cons, List.length_nil, List.cons_append, List.nil_append, List.append_nil, List.replicate, List.filterMap_cons, List.filterMap_nil, Option.map_some, Option.map_none, Option.some_or, Option.none_or, Option.bind_some, Option.bind_none, Nat.add_zero, Nat.zero_add, Nat.reduceAdd, Nat.reduceSub, Nat.reduceLT, Nat.reduceLeDiff, Nat.reduceMul, Nat.sub_zero, Nat.sub_self, if_true, if_false, reduceIte, decide_true, decide_false, Bool.not_true, Bool.not_false, Bool.true_and, Bool.and_true, Bool.false_and, Bool.and_false, Bool.true_or, Bool.or_true, Bool.false_or, Bool.or_false, and_true, true_and, and_false, false_and, or_true, true_or, or_false, false_or, not_true, not_false_iff, reduceCtorEq, eq_self, ne_eq, Bool.false_eq_true, Bool.true_eq_false, List.all_cons, List.all_nil, List.any_cons, List.any_nil, List.contains_cons, List.contains_nil, id_eq, startS, startN, sel, toN, toT, tsNil, tsCons, putX, wipeS, asLen, allW, anyW, sumW, asBools, asInts, max2W, min2W, bbT, isiW, tyN, String.reduceEq, String.reduceBEq, String.reduceNe, eqD_int, Bool.false_xor, Bool.true_xor, Bool.xor_false, Bool.xor_true, Int.reduceEq, Int.reduceLT, Int.reduceLE, Int.reduceAdd, Int.reduceSub, Int.reduceMul, Int.reduceNeg, Int.reducePow, Int.reduceToNat, Int.cast_ofNat_Int, Int.toNat_zero, Int.toNat_one, Int.toNat_natCast, decide_eq_true_eq, atI_lit, cutW_fromL, cutW_toL, cutW_midL, List.drop, List.take, beq_self_eq_true, elim_ite, bind_ite', ofStr_eq, ofStr_beq, zipW, sL, sLt]
    refine draw_run h0 h1 fun a a0 a1 => ?_
    simp only [g_law_ladder_l1, rngW, List.range, List.range.loop, e_elim_elim, e_elim_bind, e_bind_elim, e_bind_bind, e_elim_run, e_bind_run, e_kE, e_kB, e_kR, e_elim_pure, e_elim_throw, e_elim_bad, e_ofO_some, e_ofO_none, e_Mpure, e_Mbind, e_pure_bind, e_throw_bind, e_bad_bind, e_pure_run, e_throw_run, e_bad_run, e_exN, e_sq, e_sqK_next, e_sqK_ret, e_sqK_exc, e_sqK_brk, e_sqK_cont, e_nx, e_brkS, e_contS, e_rtN, e_retK, e_rtS, e_dropK, e_drp, e_ifS, e_ifK, e_nextO, e_nextN, e_asg, e_asgK, e_asgX, e_asgXK, e_asgF, e_asgFK, e_setK, e_binK1, e_binK2, e_bin, e_augI, e_forL_nil, e_forL_cons, e_forB, e_forK_next, e_forK_cont, e_forK_brk, e_forK_ret, e_forK_exc, e_forSK, e_forS, e_itemsK, e_itS, e_rng1N, e_rng1L, e_rng1, e_rng2, e_rng2K, e_rng2J, e_zipK, e_zipL, e_zipT, e_itZip, e_enumK, e_itEnum, e_accOf, e_appK2, e_appK, e_appS, e_extK2, e_extK, e_extS, e_objK, e_stK2, e_stK, e_stO, e_gv, e_gb, e_gvK, e_gbK, e_gbA, e_cw, e_un1K, e_un1, e_unFK, e_unF, e_un1MK, e_un1M, e_binMK2, e_binMK1, e_binM, e_eqDF, e_eqF_not, e_eqF_ins, e_lenF_ins, e_lenF_not, e_noX_pure, e_asBK, e_tst, e_truK, e_tru, e_notK, e_notT, e_andK, e_orK, e_andT, e_orT, e_notVK, e_notV, e_andVK, e_orVK, e_andV, e_orV, e_ifEK, e_ifE, e_isN, e_isNK_non, e_isNK_int, e_isNK_tup, e_isNK_lst, e_isNK_str, e_isNK_bl, e_isNK_ins, e_negK, e_neg1, e_chn, e_chnK1, e_chnK2, e_chnK3, e_aNil, e_consK2, e_consK, e_aCons, e_starK2, e_starK1, e_aStar, e_tupK, e_lstK1, e_dTup, e_dLst, e_lstK, e_lstF, e_frzF, e_frz, e_frzO, e_frzOv, e_frzOn, e_xNil, e_xK2, e_xVK, e_xFK, e_xV, e_xF, e_partK, e_pNone, e_pSome, e_slTK3, e_slTK2, e_slTK1, e_slT, e_slLK3, e_slLK3r, e_slLK2, e_slLK1, e_slL, e_revK, e_revL, e_compK, e_compE, e_compL_nil, e_compL_cons, e_cK1, e_cK2, e_cK3, e_cK4, e_own_no, e_own_none, e_own_v, e_own_acc, e_own_obj, e_yesT, e_callK2, e_callK1, e_callF, e_skK2, e_skK1, e_skK0, e_callSK, e_mthK3, e_mthK2, e_mthK1, e_methF, e_kwF, e_mkF, e_insK, e_insM, e_bindW, e_bindN, e_bindStar, e_badX, e_bodyM, e_bodyN, e_endF_ret, e_endF_next, e_endF_exc, e_endN_next, e_endN_exc, e_objOf, e_recv, e_fldW, e_look, e_fldK, e_fldO, e_isIns, e_isIns_int, e_isIns_bl, e_isIns_str, e_isIns_non, e_isIns_tup, e_isIns_lst, e_asBool, e_negBool, e_addI, e_addW, e_subI, e_ltI, e_leI, e_gtI, e_geI, e_mulW, e_modI, e_fdivI, e_powI, e_pow9, e_pow18, e_pow20, e_lenT, e_lenL, e_intI, e_intB, e_absW, e_tupleL, e_tupleT, e_itemsL, e_itemsT, e_ixL, e_ixT, e_allW, e_anyW, e_sumW, e_rsK, e_rsS, e_tryA, e_tryK_exc, e_tryK_next, e_tryK_ret, e_goneK_next, e_goneK_ret, e_try1, e_try1K_exc, e_try1K_next, e_try1K_ret, e_stopX_next, e_stopX_ret, e_clr_nil, e_clr_v, e_clr_no, e_clr_acc, e_own_xcp, e_xfF, e_xfK, List.getElem?_cons_zero, List.getElem?_cons_succ, List.getElem?_nil, List.set_cons_zero, List.set_cons_succ, List.map_cons, List.map_nil, List.length_cons, List.length_nil, List.cons_append, List.nil_append, List.append_nil, List.replicate, List.filterMap_cons, List.filterMap_nil, Option.map_some, Option.map_none, Option.some_or, Option.none_or, Option.bind_some, Option.bind_none, Nat.add_zero, Nat.zero_add, Nat.reduceAdd, Nat.reduceSub, Nat.reduceLT, Nat.reduceLeDiff, Nat.reduceMul, Nat.sub_zero, Nat.sub_self, if_true, if_false, reduceIte, decide_true, decide_false, Bool.not_true, Bool.not_false, Bool.true_and, Bool.and_true, Bool.false_and, Bool.and_false, Bool.true_or, Bool.or_true, Bool.false_or, Bool.or_false, and_true, true_and, and_false, false_and, or_true, true_or, or_false, false_or, not_true, not_false_iff, reduceCtorEq, eq_self, ne_eq, Bool.false_eq_true, Bool.true_eq_false, List.all_cons, List.all_nil, List.any_cons, List.any_nil, List.contains_cons, List.contains_nil, id_eq, startS, startN, sel, toN, toT, tsNil, tsCons, putX, wipeS, asLen, allW, anyW, sumW, asBools, asInts, max2W, min2W, bbT, isiW, tyN, String.reduceEq, String.reduceBEq, String.reduceNe, eqD_int, Bool.false_xor, Bool.true_xor, Bool.xor_false, Bool.xor_true, Int.reduceEq, Int.reduceLT, Int.reduceLE, Int.reduceAdd, Int.reduceSub, Int.reduceMul, Int.reduceNeg, Int.reducePow, Int.reduceToNat, Int.cast_ofNat_Int, Int.toNat_zero, Int.toNat_one, Int.toNat_natCast, decide_eq_true_eq, atI_lit, cutW_fromL, cutW_toL, cutW_midL, List.drop, List.take, beq_self_eq_true, elim_ite, bind_ite', ofStr_eq, ofStr_beq, zipW, sL, sLt]
    refine draw_run (by decide) (by decide) fun s' s0' s1' => ?_
    simp only [g_law_ladder_l1, rngW, List.range, List.range.loop, e_elim_elim, e_elim_bind, e_bind_elim, e_bind_bind, e_elim_run, e_bind_run, e_kE, e_kB, e_kR, e_elim_pure, e_elim_throw, e_elim_bad, e_ofO_some, e_ofO_none, e_Mpure, e_Mbind, e_pure_bind, e_throw_bind, e_bad_bind, e_pure_run, e_throw_run, e_bad_run, e_exN, e_sq, e_sqK_next, e_sqK_ret, e_sqK_exc, e_sqK_brk, e_sqK_cont, e_nx, e_brkS, e_contS, e_rtN, e_retK, e_rtS, e_dropK, e_drp, e_ifS, e_ifK, e_nextO, e_nextN, e_asg, e_asgK, e_asgX, e_asgXK, e_asgF, e_asgFK, e_setK, e_binK1, e_binK2, e_bin, e_augI, e_forL_nil, e_forL_cons, e_forB, e_forK_next, e_forK_cont, e_forK_brk, e_forK_ret, e_forK_exc, e_forSK, e_forS, e_itemsK, e_itS, e_rng1N, e_rng1L, e_rng1, e_rng2, e_rng2K, e_rng2J, e_zipK, e_zipL, e_zipT, e_itZip, e_enumK, e_itEnum, e_accOf, e_appK2, e_appK, e_appS, e_extK2, e_extK, e_extS, e_objK, e_stK2, e_stK, e_stO, e_gv, e_gb, e_gvK, e_gbK, e_gbA, e_cw, e_un1K, e_un1, e_unFK, e_unF, e_un1MK, e_un1M, e_binMK2, e_binMK1, e_binM, e_eqDF, e_eqF_not, e_eqF_ins, e_lenF_ins, e_lenF_not, e_noX_pure, e_asBK, e_tst, e_truK, e_tru, e_notK, e_notT, e_andK, e_orK, e_andT, e_orT, e_notVK, e_notV, e_andVK, e_orVK, e_andV, e_orV, e_ifEK, e_ifE, e_isN, e_isNK_non, e_isNK_int, e_isNK_tup, e_isNK_lst, e_isNK_str, e_isNK_bl, e_isNK_ins, e_negK, e_neg1, e_chn, e_chnK1, e_chnK2, e_chnK3, e_aNil, e_consK2, e_consK, e_aCons, e_starK2, e_starK1, e_aStar, e_tupK, e_lstK1, e_dTup, e_dLst, e_lstK, e_lstF, e_frzF, e_frz, e_frzO, e_frzOv, e_frzOn, e_xNil, e_xK2, e_xVK, e_xFK, e_xV, e_xF, e_partK, e_pNone, e_pSome, e_slTK3, e_slTK2, e_slTK1, e_slT, e_slLK3, e_slLK3r, e_slLK2, e_slLK1, e_slL, e_revK, e_revL, e_compK, e_compE, e_compL_nil, e_compL_cons, e_cK1, e_cK2, e_cK3, e_cK4, e_own_no, e_own_none, e_own_v, e_own_acc, e_own_obj, e_yesT, e_callK2, e_callK1, e_callF, e_skK2, e_skK1, e_skK0, e_callSK, e_mthK3, e_mthK2, e_mthK1, e_methF, e_kwF, e_mkF, e_insK, e_insM, e_bindW, e_bindN, e_bindStar, e_badX, e_bodyM, e_bodyN, e_endF_ret, e_endF_next, e_endF_exc, e_endN_next, e_endN_exc, e_objOf, e_recv, e_fldW, e_look, e_fldK, e_fldO, e_isIns, e_isIns_int, e_isIns_bl, e_isIns_str, e_isIns_non, e_isIns_tup, e_isIns_lst, e_asBool, e_negBool, e_addI, e_addW, e_subI, e_ltI, e_leI, e_gtI, e_geI, e_mulW, e_modI, e_fdivI, e_powI, e_pow9, e_pow18, e_pow20, e_lenT, e_lenL, e_intI, e_intB, e_absW, e_tupleL, e_tupleT, e_itemsL, e_itemsT, e_ixL, e_ixT, e_allW, e_anyW, e_sumW, e_rsK, e_rsS, e_tryA, e_tryK_exc, e_tryK_next, e_tryK_ret, e_goneK_next, e_goneK_ret, e_try1, e_try1K_exc, e_try1K_next, e_try1K_ret, e_stopX_next, e_stopX_ret, e_clr_nil, e_clr_v, e_clr_no, e_clr_acc, e_own_xcp, e_xfF, e_xfK, List.getElem?_cons_zero, List.getElem?_cons_succ, List.getElem?_nil, List.set_cons_zero, List.set_cons_succ, List.map_cons, List.map_nil, List.length_cons, List.length_nil, List.cons_append, List.nil_append, List.append_nil, List.replicate, List.filterMap_cons, List.filterMap_nil, Option.map_some, Option.map_none, Option.some_or, Option.none_or, Option.bind_some, Option.bind_none, Nat.add_zero, Nat.zero_add, Nat.reduceAdd, Nat.reduceSub, Nat.reduceLT, Nat.reduceLeDiff, Nat.reduceMul, Nat.sub_zero, Nat.sub_self, if_true, if_false, reduceIte, decide_true, decide_false, Bool.not_true, Bool.not_false, Bool.true_and, Bool.and_true, Bool.false_and, Bool.and_false, Bool.true_or, Bool.or_true, Bool.false_or, Bool.or_false, and_true, true_and, and_false, false_and, or_true, true_or, or_false, false_or, not_true, not_false_iff, reduceCtorEq, eq_self, ne_eq, Bool.false_eq_true, Bool.true_eq_false, List.all_cons, List.all_nil, List.any_cons, List.any_nil, List.contains_cons, List.contains_nil, id_eq, startS, startN, sel, toN, toT, tsNil, tsCons, putX, wipeS, asLen, allW, anyW, sumW, asBools, asInts, max2W, min2W, bbT, isiW, tyN, String.reduceEq, String.reduceBEq, String.reduceNe, eqD_int, Bool.false_xor, Bool.true_xor, Bool.xor_false, Bool.xor_true, Int.reduceEq, Int.reduceLT, Int.reduceLE, Int.reduceAdd, Int.reduceSub, Int.reduceMul, Int.reduceNeg, Int.reducePow, Int.reduceToNat, Int.cast_ofNat_Int, Int.toNat_zero, Int.toNat_one, Int.toNat_natCast, decide_eq_true_eq, atI_lit, cutW_fromL, cutW_toL, cutW_midL, List.drop, List.take, beq_self_eq_true, elim_ite, bind_ite', ofStr_eq, ofStr_beq, zipW, sL, sLt]
    refine draw_run h0 h1 fun b' b0' b1' => ?_
    simp only [g_law_ladder_l1, rngW, List.range, List.range.loop, e_elim_elim, e_elim_bind, e_bind_elim, e_bind_bind, e_elim_run, e_bind_run, e_kE, e_kB, e_kR, e_elim_pure, e_elim_throw, e_elim_bad, e_ofO_some, e_ofO_none, e_Mpure, e_Mbind, e_pure_bind, e_throw_bind, e_bad_bind, e_pure_run, e_throw_run, e_bad_run, e_exN, e_sq, e_sqK_next, e_sqK_ret, e_sqK_exc, e_sqK_brk, e_sqK_cont, e_nx, e_brkS, e_contS, e_rtN, e_retK, e_rtS, e_dropK, e_drp, e_ifS, e_ifK, e_nextO, e_nextN, e_asg, e_asgK, e_asgX, e_asgXK, e_asgF, e_asgFK, e_setK, e_binK1, e_binK2, e_bin, e_augI, e_forL_nil, e_forL_cons, e_forB, e_forK_next, e_forK_cont, e_forK_brk, e_forK_ret, e_forK_exc, e_forSK, e_forS, e_itemsK, e_itS, e_rng1N, e_rng1L, e_rng1, e_rng2, e_rng2K, e_rng2J, e_zipK, e_zipL, e_zipT, e_itZip, e_enumK, e_itEnum, e_accOf, e_appK2, e_appK, e_appS, e_extK2, e_extK, e_extS, e_objK, e_stK2, e_stK, e_stO, e_gv, e_gb, e_gvK, e_gbK, e_gbA, e_cw, e_un1K, e_un1, e_unFK, e_unF, e_un1MK, e_un1M, e_binMK2, e_binMK1, e_binM, e_eqDF, e_eqF_not, e_eqF_ins, e_lenF_ins, e_lenF_not, e_noX_pure, e_asBK, e_tst, e_truK, e_tru, e_notK, e_notT, e_andK, e_orK, e_andT, e_orT, e_notVK, e_notV, e_andVK, e_orVK, e_andV, e_orV, e_ifEK, e_ifE, e_isN, e_isNK_non, e_isNK_int, e_isNK_tup, e_isNK_lst, e_isNK_str, e_isNK_bl, e_isNK_ins, e_negK, e_neg1, e_chn, e_chnK1, e_chnK2, e_chnK3, e_aNil, e_consK2, e_consK, e_aCons, e_starK2, e_starK1, e_aStar, e_tupK, e_lstK1, e_dTup, e_dLst, e_lstK, e_lstF, e_frzF, e_frz, e_frzO, e_frzOv, e_frzOn, e_xNil, e_xK2, e_xVK, e_xFK, e_xV, e_xF, e_partK, e_pNone, e_pSome, e_slTK3, e_slTK2, e_slTK1, e_slT, e_slLK3, e_slLK3r, e_slLK2, e_slLK1, e_slL, e_revK, e_revL, e_compK, e_compE, e_compL_nil, e_compL_cons, e_cK1, e_cK2, e_cK3, e_cK4, e_own_no, e_own_none, e_own_v, e_own_acc, e_own_obj, e_yesT, e_callK2, e_callK1, e_callF, e_skK2, e_skK1, e_skK0, e_callSK, e_mthK3, e_mthK2, e_mthK1, e_methF, e_kwF, e_mkF, e_insK, e_insM, e_bindW, e_bindN, e_bindStar, e_badX, e_bodyM, e_bodyN, e_endF_ret, e_endF_next, e_endF_exc, e_endN_next, e_endN_exc, e_objOf, e_recv, e_fldW, e_look, e_fldK, e_fldO, e_isIns, e_isIns_int, e_isIns_bl, e_isIns_str, e_isIns_non, e_isIns_tup, e_isIns_lst, e_asBool, e_negBool, e_addI, e_addW, e_subI, e_ltI, e_leI, e_gtI, e_geI, e_mulW, e_modI, e_fdivI, e_powI, e_pow9, e_pow18, e_pow20, e_lenT, e_lenL, e_intI, e_intB, e_absW, e_tupleL, e_tupleT, e_itemsL, e_itemsT, e_ixL, e_ixT, e_allW, e_anyW, e_sumW, e_rsK, e_rsS, e_tryA, e_tryK_exc, e_tryK_next, e_tryK_ret, e_goneK_next, e_goneK_ret, e_try1, e_try1K_exc, e_try1K_next, e_try1K_ret, e_stopX_next, e_stopX_ret, e_clr_nil, e_clr_v, e_clr_no, e_clr_acc, e_own_xcp, e_xfF, e_xfK, List.getElem?_cons_zero, List.getElem?_cons_succ, List.getElem?_nil, List.set_cons_zero, List.set_cons_succ, List.map_cons, List.map_nil, List.length_cons, List.length_nil, List.cons_append, List.nil_append, List.append_nil, List.replicate, List.filterMap_cons, List.filterMap_nil, Option.map_some, Option.map_none, Option.some_or, Option.none_or, Option.bind_some, Option.bind_none, Nat.add_zero, Nat.zero_add, Nat.reduceAdd, Nat.reduceSub, Nat.reduceLT, Nat.reduceLeDiff, Nat.reduceMul, Nat.sub_zero, Nat.sub_self, if_true, if_false, reduceIte, decide_true, decide_false, Bool.not_true, Bool.not_false, Bool.true_and, Bool.and_true, Bool.false_and, Bool.and_false, Bool.true_or, Bool.or_true, Bool.false_or, Bool.or_false, and_true, true_and, and_false, false_and, or_true, true_or, or_false, false_or, not_true, not_false_iff, reduceCtorEq, eq_self, ne_eq, Bool.false_eq_true, Bool.true_eq_false, List.all_cons, List.all_nil, List.any_cons, List.any_nil, List.contains_cons, List.contains_nil, id_eq, startS, startN, sel, toN, toT, tsNil, tsCons, putX, wipeS, asLen, allW, anyW, sumW, asBools, asInts, max2W, min2W, bbT, isiW, tyN, String.reduceEq, String.reduceBEq, String.reduceNe, eqD_int, Bool.false_xor, Bool.true_xor, Bool.xor_false, Bool.xor_true, Int.reduceEq, Int.reduceLT, Int.reduceLE, Int.reduceAdd, Int.reduceSub, Int.reduceMul, Int.reduceNeg, Int.reducePow, Int.reduceToNat, Int.cast_ofNat_Int, Int.toNat_zero, Int.toNat_one, Int.toNat_natCast, decide_eq_true_eq, atI_lit, cutW_fromL, cutW_toL, cutW_midL, List.drop, List.take, beq_self_eq_true, elim_ite, bind_ite', ofStr_eq, ofStr_beq, zipW, sL, sLt]
    refine draw_run h0 h1 fun a' a0' a1' => ?_
    simp only [g_law_ladder_l1, rngW, List.range, List.range.loop, e_elim_elim, e_elim_bind, e_bind_elim, e_bind_bind, e_elim_run, e_bind_run, e_kE, e_kB, e_kR, e_elim_pure, e_elim_throw, e_elim_bad, e_ofO_some, e_ofO_none, e_Mpure, e_Mbind, e_pure_bind, e_throw_bind, e_bad_bind, e_pure_run, e_throw_run, e_bad_run, e_exN, e_sq, e_sqK_next, e_sqK_ret, e_sqK_exc, e_sqK_brk, e_sqK_cont, e_nx, e_brkS, e_contS, e_rtN, e_retK, e_rtS, e_dropK, e_drp, e_ifS, e_ifK, e_nextO, e_nextN, e_asg, e_asgK, e_asgX, e_asgXK, e_asgF, e_asgFK, e_setK, e_binK1, e_binK2, e_bin, e_augI, e_forL_nil, e_forL_cons, e_forB, e_forK_next, e_forK_cont, e_forK_brk, e_forK_ret, e_forK_exc, e_forSK, e_forS, e_itemsK, e_itS, e_rng1N, e_rng1L, e_rng1, e_rng2, e_rng2K, e_rng2J, e_zipK, e_zipL, e_zipT, e_itZip, e_enumK, e_itEnum, e_accOf, e_appK2, e_appK, e_appS, e_extK2, e_extK, e_extS, e_objK, e_stK2, e_stK, e_stO, e_gv, e_gb, e_gvK, e_gbK, e_gbA, e_cw, e_un1K, e_un1, e_unFK, e_unF, e_un1MK, e_un1M, e_binMK2, e_binMK1, e_binM, e_eqDF, e_eqF_not, e_eqF_ins, e_lenF_ins, e_lenF_not, e_noX_pure, e_asBK, e_tst, e_truK, e_tru, e_notK, e_notT, e_andK, e_orK, e_andT, e_orT, e_notVK, e_notV, e_andVK, e_orVK, e_andV, e_orV, e_ifEK, e_ifE, e_isN, e_isNK_non, e_isNK_int, e_isNK_tup, e_isNK_lst, e_isNK_str, e_isNK_bl, e_isNK_ins, e_negK, e_neg1, e_chn, e_chnK1, e_chnK2, e_chnK3, e_aNil, e_consK2, e_consK, e_aCons, e_starK2, e_starK1, e_aStar, e_tupK, e_lstK1, e_dTup, e_dLst, e_lstK, e_lstF, e_frzF, e_frz, e_frzO, e_frzOv, e_frzOn, e_xNil, e_xK2, e_xVK, e_xFK, e_xV, e_xF, e_partK, e_pNone, e_pSome, e_slTK3, e_slTK2, e_slTK1, e_slT, e_slLK3, e_slLK3r, e_slLK2, e_slLK1, e_slL, e_revK, e_revL, e_compK, e_compE, e_compL_nil, e_compL_cons, e_cK1, e_cK2, e_cK3, e_cK4, e_own_no, e_own_none, e_own_v, e_own_acc, e_own_obj, e_yesT, e_callK2, e_callK1, e_callF, e_skK2, e_skK1, e_skK0, e_callSK, e_mthK3, e_mthK2, e_mthK1, e_methF, e_kwF, e_mkF, e_insK, e_insM, e_bindW, e_bindN, e_bindStar, e_badX, e_bodyM, e_bodyN, e_endF_ret, e_endF_next, e_endF_exc, e_endN_next, e_endN_exc, e_objOf, e_recv, e_fldW, e_look, e_fldK, e_fldO, e_isIns, e_isIns_int, e_isIns_bl, e_isIns_str, e_isIns_non, e_isIns_tup, e_isIns_lst, e_asBool, e_negBool, e_addI, e_addW, e_subI, e_ltI, e_leI, e_gtI, e_geI, e_mulW, e_modI, e_fdivI, e_powI, e_pow9, e_pow18, e_pow20, e_lenT, e_lenL, e_intI, e_intB, e_absW, e_tupleL, e_tupleT, e_itemsL, e_itemsT, e_ixL, e_ixT, e_allW, e_anyW, e_sumW, e_rsK, e_rsS, e_tryA, e_tryK_exc, e_tryK_next, e_tryK_ret, e_goneK_next, e_goneK_ret, e_try1, e_try1K_exc, e_try1K_next, e_try1K_ret, e_stopX_next, e_stopX_ret, e_clr_nil, e_clr_v, e_clr_no, e_clr_acc, e_own_xcp, e_xfF, e_xfK, List.getElem?_cons_zero, List.getElem?_cons_succ, List.getElem?_nil, List.set_cons_zero, List.set_cons_succ, List.map_cons, List.map_nil, List.length_cons, List.length_nil, List.cons_append, List.nil_append, List.append_nil, List.replicate, List.filterMap_cons, List.filterMap_nil, Option.map_some, Option.map_none, Option.some_or, Option.none_or, Option.bind_some, Option.bind_none, Nat.add_zero, Nat.zero_add, Nat.reduceAdd, Nat.reduceSub, Nat.reduceLT, Nat.reduceLeDiff, Nat.reduceMul, Nat.sub_zero, Nat.sub_self, if_true, if_false, reduceIte, decide_true, decide_false, Bool.not_true, Bool.not_false, Bool.true_and, Bool.and_true, Bool.false_and, Bool.and_false, Bool.true_or, Bool.or_true, Bool.false_or, Bool.or_false, and_true, true_and, and_false, false_and, or_true, true_or, or_false, false_or, not_true, not_false_iff, reduceCtorEq, eq_self, ne_eq, Bool.false_eq_true, Bool.true_eq_false, List.all_cons, List.all_nil, List.any_cons, List.any_nil, List.contains_cons, List.contains_nil, id_eq, startS, startN, sel, toN, toT, tsNil, tsCons, putX, wipeS, asLen, allW, anyW, sumW, asBools, asInts, max2W, min2W, bbT, isiW, tyN, String.reduceEq, String.reduceBEq, String.reduceNe, eqD_int, Bool.false_xor, Bool.true_xor, Bool.xor_false, Bool.xor_true, Int.reduceEq, Int.reduceLT, Int.reduceLE, Int.reduceAdd, Int.reduceSub, Int.reduceMul, Int.reduceNeg, Int.reducePow, Int.reduceToNat, Int.cast_ofNat_Int, Int.toNat_zero, Int.toNat_one, Int.toNat_natCast, decide_eq_true_eq, atI_lit, cutW_fromL, cutW_toL, cutW_midL, List.drop, List.take, beq_self_eq_true, elim_ite, bind_ite', ofStr_eq, ofStr_beq, zipW, sL, sLt]
    refine draw_run (by decide) (by decide) fun t t0 t1 => ?_
    simp only [g_law_ladder_l1, rngW, List.range, List.range.loop, e_elim_elim, e_elim_bind, e_bind_elim, e_bind_bind, e_elim_run, e_bind_run, e_kE, e_kB, e_kR, e_elim_pure, e_elim_throw, e_elim_bad, e_ofO_some, e_ofO_none, e_Mpure, e_Mbind, e_pure_bind, e_throw_bind, e_bad_bind, e_pure_run, e_throw_run, e_bad_run, e_exN, e_sq, e_sqK_next, e_sqK_ret, e_sqK_exc, e_sqK_brk, e_sqK_cont, e_nx, e_brkS, e_contS, e_rtN, e_retK, e_rtS, e_dropK, e_drp, e_ifS, e_ifK, e_nextO, e_nextN, e_asg, e_asgK, e_asgX, e_asgXK, e_asgF, e_asgFK, e_setK, e_binK1, e_binK2, e_bin, e_augI, e_forL_nil, e_forL_cons, e_forB, e_forK_next, e_forK_cont, e_forK_brk, e_forK_ret, e_forK_exc, e_forSK, e_forS, e_itemsK, e_itS, e_rng1N, e_rng1L, e_rng1, e_rng2, e_rng2K, e_rng2J, e_zipK, e_zipL, e_zipT, e_itZip, e_enumK, e_itEnum, e_accOf, e_appK2, e_appK, e_appS, e_extK2, e_extK, e_extS, e_objK, e_stK2, e_stK, e_stO, e_gv, e_gb, e_gvK, e_gbK, e_gbA, e_cw, e_un1K, e_un1, e_unFK, e_unF, e_un1MK, e_un1M, e_binMK2, e_binMK1, e_binM, e_eqDF, e_eqF_not, e_eqF_ins, e_lenF_ins, e_lenF_not, e_noX_pure, e_asBK, e_tst, e_truK, e_tru, e_notK, e_notT, e_andK, e_orK, e_andT, e_orT, e_notVK, e_notV, e_andVK, e_orVK, e_andV, e_orV, e_ifEK, e_ifE, e_isN, e_isNK_non, e_isNK_int, e_isNK_tup, e_isNK_lst, e_isNK_str, e_isNK_bl, e_isNK_ins, e_negK, e_neg1, e_chn, e_chnK1, e_chnK2, e_chnK3, e_aNil, e_consK2, e_consK, e_aCons, e_starK2, e_starK1, e_aStar, e_tupK, e_lstK1, e_dTup, e_dLst, e_lstK, e_lstF, e_frzF, e_frz, e_frzO, e_frzOv, e_frzOn, e_xNil, e_xK2, e_xVK, e_xFK, e_xV, e_xF, e_partK, e_pNone, e_pSome, e_slTK3, e_slTK2, e_slTK1, e_slT, e_slLK3, e_slLK3r, e_slLK2, e_slLK1, e_slL, e_revK, e_revL, e_compK, e_compE, e_compL_nil, e_compL_cons, e_cK1, e_cK2, e_cK3, e_cK4, e_own_no, e_own_none, e_own_v, e_own_acc, e_own_obj, e_yesT, e_callK2, e_callK1, e_callF, e_skK2, e_skK1, e_skK0, e_callSK, e_mthK3, e_mthK2, e_mthK1, e_methF, e_kwF, e_mkF, e_insK, e_insM, e_bindW, e_bindN, e_bindStar, e_badX, e_bodyM, e_bodyN, e_endF_ret, e_endF_next, e_endF_exc, e_endN_next, e_endN_exc, e_objOf, e_recv, e_fldW, e_look, e_fldK, e_fldO, e_isIns, e_isIns_int, e_isIns_bl, e_isIns_str, e_isIns_non, e_isIns_tup, e_isIns_lst, e_asBool, e_negBool, e_addI, e_addW, e_subI, e_ltI, e_leI, e_gtI, e_geI, e_mulW, e_modI, e_fdivI, e_powI, e_pow9, e_pow18, e_pow20, e_lenT, e_lenL, e_intI, e_intB, e_absW, e_tupleL, e_tupleT, e_itemsL, e_itemsT, e_ixL, e_ixT, e_allW, e_anyW, e_sumW, e_rsK, e_rsS, e_tryA, e_tryK_exc, e_tryK_next, e_tryK_ret, e_goneK_next, e_goneK_ret, e_try1, e_try1K_exc, e_try1K_next, e_try1K_ret, e_stopX_next, e_stopX_ret, e_clr_nil, e_clr_v, e_clr_no, e_clr_acc, e_own_xcp, e_xfF, e_xfK, List.getElem?_cons_zero, List.getElem?_cons_succ, List.getElem?_nil, List.set_cons_zero, List.set_cons_succ, List.map_cons, List.map_nil, List.length_cons, List.length_nil, List.cons_append, List.nil_append, List.append_nil, List.replicate, List.filterMap_cons, List.filterMap_nil, Option.map_some, Option.map_none, Option.some_or, Option.none_or, Option.bind_some, Option.bind_none, Nat.add_zero, Nat.zero_add, Nat.reduceAdd, Nat.reduceSub, Nat.reduceLT, Nat.reduceLeDiff, Nat.reduceMul, Nat.sub_zero, Nat.sub_self, if_true, if_false, reduceIte, decide_true, decide_false, Bool.not_true, Bool.not_false, Bool.true_and, Bool.and_true, Bool.false_and, Bool.and_false, Bool.true_or, Bool.or_true, Bool.false_or, Bool.or_false, and_true, true_and, and_false, false_and, or_true, true_or, or_false, false_or, not_true, not_false_iff, reduceCtorEq, eq_self, ne_eq, Bool.false_eq_true, Bool.true_eq_false, List.all_cons, List.all_nil, List.any_cons, List.any_nil, List.contains_cons, List.contains_nil, id_eq, startS, startN, sel, toN, toT, tsNil, tsCons, putX, wipeS, asLen, allW, anyW, sumW, asBools, asInts, max2W, min2W, bbT, isiW, tyN, String.reduceEq, String.reduceBEq, String.reduceNe, eqD_int, Bool.false_xor, Bool.true_xor, Bool.xor_false, Bool.xor_true, Int.reduceEq, Int.reduceLT, Int.reduceLE, Int.reduceAdd, Int.reduceSub, Int.reduceMul, Int.reduceNeg, Int.reducePow, Int.reduceToNat, Int.cast_ofNat_Int, Int.toNat_zero, Int.toNat_one, Int.toNat_natCast, decide_eq_true_eq, atI_lit, cutW_fromL, cutW_toL, cutW_midL, List.drop, List.take, beq_self_eq_true, elim_ite, bind_ite', ofStr_eq, ofStr_beq, zipW, sL, sLt]
    exact ⟨[(_, _, _), (_, _, _)], _, rfl, by simp only [LadOk]; omega⟩

theorem e_eqD_bl {neg a b : Bool} : eqD neg (.bl a) (.bl b) = some (.bl (neg ^^ (a == b))) := by
  rw [eqD_ok (by simp [okW]) (by simp [okW])]
  simp [eqW]
theorem eqD_ints2 (neg : Bool) (a b c d : Int) : eqD neg (.lst [.int a, .int b]) (.lst [.int c, .int d]) = some (.bl (neg ^^ (decide (a = c) && decide (b = d)))) := by
  rw [eqD_ok (by simp [okW]) (by simp [okW])]
  simp [eqW, eqWs]

theorem bits_of {z : Int} {a b : Nat} (h : Builtin.Int.intBits z ≤ a) (hab : a ≤ b) : (z.natAbs : Int) < 2 ^ b := by
  have h1 : z.natAbs < 2 ^ a := by
    unfold Builtin.Int.intBits at h
    by_cases e : z = 0
    · subst e; simp only [Int.natAbs_zero]; exact Nat.pow_pos (by decide)
    · rw [if_neg (by simpa using e)] at h
      have : z.natAbs ≠ 0 := by omega
      exact (Nat.log2_lt this).mp (by omega)
  have h2 : z.natAbs < 2 ^ b := Nat.lt_of_lt_of_le h1 (Nat.pow_le_pow_right (by decide) hab)
  exact_mod_cast h2
theorem deal_abs {x0 x1 x2 x3 : Sl} (l : List Int) : compL (toN 4) yesT (un1 absW (gb 4)) (l.map .int) [x0, x1, x2, x3, .no] = pure ((l.map fun z => (z.natAbs : Int)).map .int) := by
  induction l with
  | nil => rfl
  | cons z l ih =>
    have e : (if z < 0 then -z else z) = (z.natAbs : Int) := by split <;> omega
    simp only [List.map_cons, e_elim_elim, e_elim_bind, e_bind_elim, e_bind_bind, e_elim_run, e_bind_run, e_kE, e_kB, e_kR, e_elim_pure, e_elim_throw, e_elim_bad, e_ofO_some, e_ofO_none, e_Mpure, e_Mbind, e_pure_bind, e_throw_bind, e_bad_bind, e_pure_run, e_throw_run, e_bad_run, e_exN, e_sq, e_sqK_next, e_sqK_ret, e_sqK_exc, e_sqK_brk, e_sqK_cont, e_nx, e_brkS, e_contS, e_rtN, e_retK, e_rtS, e_dropK, e_drp, e_ifS, e_ifK, e_nextO, e_nextN, e_asg, e_asgK, e_asgX, e_asgXK, e_asgF, e_asgFK, e_setK, e_binK1, e_binK2, e_bin, e_augI, e_forL_nil, e_forL_cons, e_forB, e_forK_next, e_forK_cont, e_forK_brk, e_forK_ret, e_forK_exc, e_forSK, e_forS, e_itemsK, e_itS, e_rng1N, e_rng1L, e_rng1, e_rng2, e_rng2K, e_rng2J, e_zipK, e_zipL, e_zipT, e_itZip, e_enumK, e_itEnum, e_accOf, e_appK2, e_appK, e_appS, e_extK2, e_extK, e_extS, e_objK, e_stK2, e_stK, e_stO, e_gv, e_gb, e_gvK, e_gbK, e_gbA, e_cw, e_un1K, e_un1, e_unFK, e_unF, e_un1MK, e_un1M, e_binMK2, e_binMK1, e_binM, e_eqDF, e_eqF_not, e_eqF_ins, e_lenF_ins, e_lenF_not, e_noX_pure, e_asBK, e_tst, e_truK, e_tru, e_notK, e_notT, e_andK, e_orK, e_andT, e_orT, e_notVK, e_notV, e_andVK, e_orVK, e_andV, e_orV, e_ifEK, e_ifE, e_isN, e_isNK_non, e_isNK_int, e_isNK_tup, e_isNK_lst, e_isNK_str, e_isNK_bl, e_isNK_ins, e_negK, e_neg1, e_chn, e_chnK1, e_chnK2, e_chnK3, e_aNil, e_consK2, e_consK, e_aCons, e_starK2, e_starK1, e_aStar, e_tupK, e_lstK1, e_dTup, e_dLst, e_lstK, e_lstF, e_frzF, e_frz, e_frzO, e_frzOv, e_frzOn, e_xNil, e_xK2, e_xVK, e_xFK, e_xV, e_xF, e_partK, e_pNone, e_pSome, e_slTK3, e_slTK2, e_slTK1, e_slT, e_slLK3, e_slLK3r, e_slLK2, e_slLK1, e_slL, e_revK, e_revL, e_compK, e_compE, e_compL_nil, e_compL_cons, e_cK1, e_cK2, e_cK3, e_cK4, e_own_no, e_own_none, e_own_v, e_own_acc, e_own_obj, e_yesT, e_callK2, e_callK1, e_callF, e_skK2, e_skK1, e_skK0, e_callSK, e_mthK3, e_mthK2, e_mthK1, e_methF, e_kwF, e_mkF, e_insK, e_insM, e_bindW, e_bindN, e_bindStar, e_badX, e_bodyM, e_bodyN, e_endF_ret, e_endF_next, e_endF_exc, e_endN_next, e_endN_exc, e_objOf, e_recv, e_fldW, e_look, e_fldK, e_fldO, e_isIns, e_isIns_int, e_isIns_bl, e_isIns_str, e_isIns_non, e_isIns_tup, e_isIns_lst, e_asBool, e_negBool, e_addI, e_addW, e_subI, e_ltI, e_leI, e_gtI, e_geI, e_mulW, e_modI, e_fdivI, e_powI, e_pow9, e_pow18, e_pow20, e_lenT, e_lenL, e_intI, e_intB, e_absW, e_tupleL, e_tupleT, e_itemsL, e_itemsT, e_ixL, e_ixT, e_allW, e_anyW, e_sumW, e_rsK, e_rsS, e_tryA, e_tryK_exc, e_tryK_next, e_tryK_ret, e_goneK_next, e_goneK_ret, e_try1, e_try1K_exc, e_try1K_next, e_try1K_ret, e_stopX_next, e_stopX_ret, e_clr_nil, e_clr_v, e_clr_no, e_clr_acc, e_own_xcp, e_xfF, e_xfK, List.getElem?_cons_zero, List.getElem?_cons_succ, List.getElem?_nil, List.set_cons_zero, List.set_cons_succ, List.map_cons, List.map_nil, List.length_cons, List.length_nil, List.cons_append, List.nil_append, List.append_nil, List.replicate, List.filterMap_cons, List.filterMap_nil, Option.map_some, Option.map_none, Option.some_or, Option.none_or, Option.bind_some, Option.bind_none, Nat.add_zero, Nat.zero_add, Nat.reduceAdd, Nat.reduceSub, Nat.reduceLT, Nat.reduceLeDiff, Nat.reduceMul, Nat.sub_zero, Nat.sub_self, if_true, if_false, reduceIte, decide_true, decide_false, Bool.not_true, Bool.not_false, Bool.true_and, Bool.and_true, Bool.false_and, Bool.and_false, Bool.true_or, Bool.or_true, Bool.false_or, Bool.or_false, and_true, true_and, and_false, false_and, or_true, true_or, or_false, false_or, not_true, not_false_iff, reduceCtorEq, eq_self, ne_eq, Bool.false_eq_true, Bool.true_eq_false, List.all_cons, List.all_nil, List.any_cons, List.any_nil, List.contains_cons, List.contains_nil, id_eq, startS, startN, sel, toN, toT, tsNil, tsCons, putX, wipeS, asLen, allW, anyW, sumW, asBools, asInts, max2W, min2W, bbT, isiW, tyN, String.reduceEq, String.reduceBEq, String.reduceNe, eqD_int, Bool.false_xor, Bool.true_xor, Bool.xor_false, Bool.xor_true, Int.reduceEq, Int.reduceLT, Int.reduceLE, Int.reduceAdd, Int.reduceSub, Int.reduceMul, Int.reduceNeg, Int.reducePow, Int.reduceToNat, Int.cast_ofNat_Int, Int.toNat_zero, Int.toNat_one, Int.toNat_natCast, decide_eq_true_eq, atI_lit, cutW_fromL, cutW_toL, cutW_midL, List.drop, List.take, beq_self_eq_true, elim_ite, bind_ite', ofStr_eq, ofStr_beq, zipW, sL, sLt, ih, e]
theorem deal_filter {x0 x1 x2 x3 : Sl} (l : List Int) : compL (toN 4) (tst (bin geI (gb 4) (bin powI (cw (.int 10)) (cw (.int 18))))) (gv 4) (l.map .int) [x0, x1, x2, x3, .no] = pure ((l.filter fun z => decide (1000000000000000000 ≤ z)).map .int) := by
  induction l with
  | nil => rfl
  | cons z l ih =>
    by_cases e : (1000000000000000000 : Int) ≤ z
    · rw [List.filter_cons_of_pos (by simpa using e)]
      simp only [List.map_cons, e_elim_elim, e_elim_bind, e_bind_elim, e_bind_bind, e_elim_run, e_bind_run, e_kE, e_kB, e_kR, e_elim_pure, e_elim_throw, e_elim_bad, e_ofO_some, e_ofO_none, e_Mpure, e_Mbind, e_pure_bind, e_throw_bind, e_bad_bind, e_pure_run, e_throw_run, e_bad_run, e_exN, e_sq, e_sqK_next, e_sqK_ret, e_sqK_exc, e_sqK_brk, e_sqK_cont, e_nx, e_brkS, e_contS, e_rtN, e_retK, e_rtS, e_dropK, e_drp, e_ifS, e_ifK, e_nextO, e_nextN, e_asg, e_asgK, e_asgX, e_asgXK, e_asgF, e_asgFK, e_setK, e_binK1, e_binK2, e_bin, e_augI, e_forL_nil, e_forL_cons, e_forB, e_forK_next, e_forK_cont, e_forK_brk, e_forK_ret, e_forK_exc, e_forSK, e_forS, e_itemsK, e_itS, e_rng1N, e_rng1L, e_rng1, e_rng2, e_rng2K, e_rng2J, e_zipK, e_zipL, e_zipT, e_itZip, e_enumK, e_itEnum, e_accOf, e_appK2, e_appK, e_appS, e_extK2, e_extK, e_extS, e_objK, e_stK2, e_stK, e_stO, e_gv, e_gb, e_gvK, e_gbK, e_gbA, e_cw, e_un1K, e_un1, e_unFK, e_unF, e_un1MK, e_un1M, e_binMK2, e_binMK1, e_binM, e_eqDF, e_eqF_not, e_eqF_ins, e_lenF_ins, e_lenF_not, e_noX_pure, e_asBK, e_tst, e_truK, e_tru, e_notK, e_notT, e_andK, e_orK, e_andT, e_orT, e_notVK, e_notV, e_andVK, e_orVK, e_andV, e_orV, e_ifEK, e_ifE, e_isN, e_isNK_non, e_isNK_int, e_isNK_tup, e_isNK_lst, e_isNK_str, e_isNK_bl, e_isNK_ins, e_negK, e_neg1, e_chn, e_chnK1, e_chnK2, e_chnK3, e_aNil, e_consK2, e_consK, e_aCons, e_starK2, e_starK1, e_aStar, e_tupK, e_lstK1, e_dTup, e_dLst, e_lstK, e_lstF, e_frzF, e_frz, e_frzO, e_frzOv, e_frzOn, e_xNil, e_xK2, e_xVK, e_xFK, e_xV, e_xF, e_partK, e_pNone, e_pSome, e_slTK3, e_slTK2, e_slTK1, e_slT, e_slLK3, e_slLK3r, e_slLK2, e_slLK1, e_slL, e_revK, e_revL, e_compK, e_compE, e_compL_nil, e_compL_cons, e_cK1, e_cK2, e_cK3, e_cK4, e_own_no, e_own_none, e_own_v, e_own_acc, e_own_obj, e_yesT, e_callK2, e_callK1, e_callF, e_skK2, e_skK1, e_skK0, e_callSK, e_mthK3, e_mthK2, e_mthK1, e_methF, e_kwF, e_mkF, e_insK, e_insM, e_bindW, e_bindN, e_bindStar, e_badX, e_bodyM, e_bodyN, e_endF_ret, e_endF_next, e_endF_exc, e_endN_next, e_endN_exc, e_objOf, e_recv, e_fldW, e_look, e_fldK, e_fldO, e_isIns, e_isIns_int, e_isIns_bl, e_isIns_str, e_isIns_non, e_isIns_tup, e_isIns_lst, e_asBool, e_negBool, e_addI, e_addW, e_subI, e_ltI, e_leI, e_gtI, e_geI, e_mulW, e_modI, e_fdivI, e_powI, e_pow9, e_pow18, e_pow20, e_lenT, e_lenL, e_intI, e_intB, e_absW, e_tupleL, e_tupleT, e_itemsL, e_itemsT, e_ixL, e_ixT, e_allW, e_anyW, e_sumW, e_rsK, e_rsS, e_tryA, e_tryK_exc, e_tryK_next, e_tryK_ret, e_goneK_next, e_goneK_ret, e_try1, e_try1K_exc, e_try1K_next, e_try1K_ret, e_stopX_next, e_stopX_ret, e_clr_nil, e_clr_v, e_clr_no, e_clr_acc, e_own_xcp, e_xfF, e_xfK, List.getElem?_cons_zero, List.getElem?_cons_succ, List.getElem?_nil, List.set_cons_zero, List.set_cons_succ, List.map_cons, List.map_nil, List.length_cons, List.length_nil, List.cons_append, List.nil_append, List.append_nil, List.replicate, List.filterMap_cons, List.filterMap_nil, Option.map_some, Option.map_none, Option.some_or, Option.none_or, Option.bind_some, Option.bind_none, Nat.add_zero, Nat.zero_add, Nat.reduceAdd, Nat.reduceSub, Nat.reduceLT, Nat.reduceLeDiff, Nat.reduceMul, Nat.sub_zero, Nat.sub_self, if_true, if_false, reduceIte, decide_true, decide_false, Bool.not_true, Bool.not_false, Bool.true_and, Bool.and_true, Bool.false_and, Bool.and_false, Bool.true_or, Bool.or_true, Bool.false_or, Bool.or_false, and_true, true_and, and_false, false_and, or_true, true_or, or_false, false_or, not_true, not_false_iff, reduceCtorEq, eq_self, ne_eq, Bool.false_eq_true, Bool.true_eq_false, List.all_cons, List.all_nil, List.any_cons, List.any_nil, List.contains_cons, List.contains_nil, id_eq, startS, startN, sel, toN, toT, tsNil, tsCons, putX, wipeS, asLen, allW, anyW, sumW, asBools, asInts, max2W, min2W, bbT, isiW, tyN, String.reduceEq, String.reduceBEq, String.reduceNe, eqD_int, Bool.false_xor, Bool.true_xor, Bool.xor_false, Bool.xor_true, Int.reduceEq, Int.reduceLT, Int.reduceLE, Int.reduceAdd, Int.reduceSub, Int.reduceMul, Int.reduceNeg, Int.reducePow, Int.reduceToNat, Int.cast_ofNat_Int, Int.toNat_zero, Int.toNat_one, Int.toNat_natCast, decide_eq_true_eq, atI_lit, cutW_fromL, cutW_toL, cutW_midL, List.drop, List.take, beq_self_eq_true, elim_ite, bind_ite', ofStr_eq, ofStr_beq, zipW, sL, sLt, ih, e]
    · rw [List.filter_cons_of_neg (by simpa using e)]
      simp only [List.map_cons, e_elim_elim, e_elim_bind, e_bind_elim, e_bind_bind, e_elim_run, e_bind_run, e_kE, e_kB, e_kR, e_elim_pure, e_elim_throw, e_elim_bad, e_ofO_some, e_ofO_none, e_Mpure, e_Mbind, e_pure_bind, e_throw_bind, e_bad_bind, e_pure_run, e_throw_run, e_bad_run, e_exN, e_sq, e_sqK_next, e_sqK_ret, e_sqK_exc, e_sqK_brk, e_sqK_cont, e_nx, e_brkS, e_contS, e_rtN, e_retK, e_rtS, e_dropK, e_drp, e_ifS, e_ifK, e_nextO, e_nextN, e_asg, e_asgK, e_asgX, e_asgXK, e_asgF, e_asgFK, e_setK, e_binK1, e_binK2, e_bin, e_augI, e_forL_nil, e_forL_cons, e_forB, e_forK_next, e_forK_cont, e_forK_brk, e_forK_ret, e_forK_exc, e_forSK, e_forS, e_itemsK, e_itS, e_rng1N, e_rng1L, e_rng1, e_rng2, e_rng2K, e_rng2J, e_zipK, e_zipL, e_zipT, e_itZip, e_enumK, e_itEnum, e_accOf, e_appK2, e_appK, e_appS, e_extK2, e_extK, e_extS, e_objK, e_stK2, e_stK, e_stO, e_gv, e_gb, e_gvK, e_gbK, e_gbA, e_cw, e_un1K, e_un1, e_unFK, e_unF, e_un1MK, e_un1M, e_binMK2, e_binMK1, e_binM, e_eqDF, e_eqF_not, e_eqF_ins, e_lenF_ins, e_lenF_not, e_noX_pure, e_asBK, e_tst, e_truK, e_tru, e_notK, e_notT, e_andK, e_orK, e_andT, e_orT, e_notVK, e_notV, e_andVK, e_orVK, e_andV, e_orV, e_ifEK, e_ifE, e_isN, e_isNK_non, e_isNK_int, e_isNK_tup, e_isNK_lst, e_isNK_str, e_isNK_bl, e_isNK_ins, e_negK, e_neg1, e_chn, e_chnK1, e_chnK2, e_chnK3, e_aNil, e_consK2, e_consK, e_aCons, e_starK2, e_starK1, e_aStar, e_tupK, e_lstK1, e_dTup, e_dLst, e_lstK, e_lstF, e_frzF, e_frz, e_frzO, e_frzOv, e_frzOn, e_xNil, e_xK2, e_xVK, e_xFK, e_xV, e_xF, e_partK, e_pNone, e_pSome, e_slTK3, e_slTK2, e_slTK1, e_slT, e_slLK3, e_slLK3r, e_slLK2, e_slLK1, e_slL, e_revK, e_revL, e_compK, e_compE, e_compL_nil, e_compL_cons, e_cK1, e_cK2, e_cK3, e_cK4, e_own_no, e_own_none, e_own_v, e_own_acc, e_own_obj, e_yesT, e_callK2, e_callK1, e_callF, e_skK2, e_skK1, e_skK0, e_callSK, e_mthK3, e_mthK2, e_mthK1, e_methF, e_kwF, e_mkF, e_insK, e_insM, e_bindW, e_bindN, e_bindStar, e_badX, e_bodyM, e_bodyN, e_endF_ret, e_endF_next, e_endF_exc, e_endN_next, e_endN_exc, e_objOf, e_recv, e_fldW, e_look, e_fldK, e_fldO, e_isIns, e_isIns_int, e_isIns_bl, e_isIns_str, e_isIns_non, e_isIns_tup, e_isIns_lst, e_asBool, e_negBool, e_addI, e_addW, e_subI, e_ltI, e_leI, e_gtI, e_geI, e_mulW, e_modI, e_fdivI, e_powI, e_pow9, e_pow18, e_pow20, e_lenT, e_lenL, e_intI, e_intB, e_absW, e_tupleL, e_tupleT, e_itemsL, e_itemsT, e_ixL, e_ixT, e_allW, e_anyW, e_sumW, e_rsK, e_rsS, e_tryA, e_tryK_exc, e_tryK_next, e_tryK_ret, e_goneK_next, e_goneK_ret, e_try1, e_try1K_exc, e_try1K_next, e_try1K_ret, e_stopX_next, e_stopX_ret, e_clr_nil, e_clr_v, e_clr_no, e_clr_acc, e_own_xcp, e_xfF, e_xfK, List.getElem?_cons_zero, List.getElem?_cons_succ, List.getElem?_nil, List.set_cons_zero, List.set_cons_succ, List.map_cons, List.map_nil, List.length_cons, List.length_nil, List.cons_append, List.nil_append, List.append_nil, List.replicate, List.filterMap_cons, List.filterMap_nil, Option.map_some, Option.map_none, Option.some_or, Option.none_or, Option.bind_some, Option.bind_none, Nat.add_zero, Nat.zero_add, Nat.reduceAdd, Nat.reduceSub, Nat.reduceLT, Nat.reduceLeDiff, Nat.reduceMul, Nat.sub_zero, Nat.sub_self, if_true, if_false, reduceIte, decide_true, decide_false, Bool.not_true, Bool.not_false, Bool.true_and, Bool.and_true, Bool.false_and, Bool.and_false, Bool.true_or, Bool.or_true, Bool.false_or, Bool.or_false, and_true, true_and, and_false, false_and, or_true, true_or, or_false, false_or, not_true, not_false_iff, reduceCtorEq, eq_self, ne_eq, Bool.false_eq_true, Bool.true_eq_false, List.all_cons, List.all_nil, List.any_cons, List.any_nil, List.contains_cons, List.contains_nil, id_eq, startS, startN, sel, toN, toT, tsNil, tsCons, putX, wipeS, asLen, allW, anyW, sumW, asBools, asInts, max2W, min2W, bbT, isiW, tyN, String.reduceEq, String.reduceBEq, String.reduceNe, eqD_int, Bool.false_xor, Bool.true_xor, Bool.xor_false, Bool.xor_true, Int.reduceEq, Int.reduceLT, Int.reduceLE, Int.reduceAdd, Int.reduceSub, Int.reduceMul, Int.reduceNeg, Int.reducePow, Int.reduceToNat, Int.cast_ofNat_Int, Int.toNat_zero, Int.toNat_one, Int.toNat_natCast, decide_eq_true_eq, atI_lit, cutW_fromL, cutW_toL, cutW_midL, List.drop, List.take, beq_self_eq_true, elim_ite, bind_ite', ofStr_eq, ofStr_beq, zipW, sL, sLt, ih, e]
theorem deal_mix {x0 x1 x2 : Sl} (l : List Int) : ∀ (m : Int) (s4 : Sl), 0 ≤ m → m < 2147483647 → ∃ (m' : Int) (s4' : Sl), 0 ≤ m' ∧ m' < 2147483647 ∧ (ownS (some s4) = false → ownS (some s4') = false) ∧ forL (toN 4) g_law_deal_l1 (l.map .int) [x0, x1, x2, .v (.int m), s4] = pure (.next [x0, x1, x2, .v (.int m'), s4']) := by
  induction l with
  | nil => exact fun m s4 h0 h1 => ⟨m, s4, h0, h1, id, rfl⟩
  | cons z l ih =>
    intro m s4 h0 h1
    obtain ⟨m', s4', a, b, c, d⟩ := ih ((m * 16807 + z % 2147483629) % 2147483647) (.v (.int z)) (Int.emod_nonneg _ (by decide)) (Int.emod_lt_of_pos _ (by decide))
    refine ⟨m', s4', a, b, fun _ => c rfl, ?_⟩
    have e1 := e_mulW m 16807 (.inr (by decide))
    have e2 := e_modI z 2147483629 (by decide)
    have e3 := e_modI (m * 16807 + z % 2147483629) 2147483647 (by decide)
    simp only [g_law_deal_l1, List.map_cons, e_elim_elim, e_elim_bind, e_bind_elim, e_bind_bind, e_elim_run, e_bind_run, e_kE, e_kB, e_kR, e_elim_pure, e_elim_throw, e_elim_bad, e_ofO_some, e_ofO_none, e_Mpure, e_Mbind, e_pure_bind, e_throw_bind, e_bad_bind, e_pure_run, e_throw_run, e_bad_run, e_exN, e_sq, e_sqK_next, e_sqK_ret, e_sqK_exc, e_sqK_brk, e_sqK_cont, e_nx, e_brkS, e_contS, e_rtN, e_retK, e_rtS, e_dropK, e_drp, e_ifS, e_ifK, e_nextO, e_nextN, e_asg, e_asgK, e_asgX, e_asgXK, e_asgF, e_asgFK, e_setK, e_binK1, e_binK2, e_bin, e_augI, e_forL_nil, e_forL_cons, e_forB, e_forK_next, e_forK_cont, e_forK_brk, e_forK_ret, e_forK_exc, e_forSK, e_forS, e_itemsK, e_itS, e_rng1N, e_rng1L, e_rng1, e_rng2, e_rng2K, e_rng2J, e_zipK, e_zipL, e_zipT, e_itZip, e_enumK, e_itEnum, e_accOf, e_appK2, e_appK, e_appS, e_extK2, e_extK, e_extS, e_objK, e_stK2, e_stK, e_stO, e_gv, e_gb, e_gvK, e_gbK, e_gbA, e_cw, e_un1K, e_un1, e_unFK, e_unF, e_un1MK, e_un1M, e_binMK2, e_binMK1, e_binM, e_eqDF, e_eqF_not, e_eqF_ins, e_lenF_ins, e_lenF_not, e_noX_pure, e_asBK, e_tst, e_truK, e_tru, e_notK, e_notT, e_andK, e_orK, e_andT, e_orT, e_notVK, e_notV, e_andVK, e_orVK, e_andV, e_orV, e_ifEK, e_ifE, e_isN, e_isNK_non, e_isNK_int, e_isNK_tup, e_isNK_lst, e_isNK_str, e_isNK_bl, e_isNK_ins, e_negK, e_neg1, e_chn, e_chnK1, e_chnK2, e_chnK3, e_aNil, e_consK2, e_consK, e_aCons, e_starK2, e_starK1, e_aStar, e_tupK, e_lstK1, e_dTup, e_dLst, e_lstK, e_lstF, e_frzF, e_frz, e_frzO, e_frzOv, e_frzOn, e_xNil, e_xK2, e_xVK, e_xFK, e_xV, e_xF, e_partK, e_pNone, e_pSome, e_slTK3, e_slTK2, e_slTK1, e_slT, e_slLK3, e_slLK3r, e_slLK2, e_slLK1, e_slL, e_revK, e_revL, e_compK, e_compE, e_compL_nil, e_compL_cons, e_cK1, e_cK2, e_cK3, e_cK4, e_own_no, e_own_none, e_own_v, e_own_acc, e_own_obj, e_yesT, e_callK2, e_callK1, e_callF, e_skK2, e_skK1, e_skK0, e_callSK, e_mthK3, e_mthK2, e_mthK1, e_methF, e_kwF, e_mkF, e_insK, e_insM, e_bindW, e_bindN, e_bindStar, e_badX, e_bodyM, e_bodyN, e_endF_ret, e_endF_next, e_endF_exc, e_endN_next, e_endN_exc, e_objOf, e_recv, e_fldW, e_look, e_fldK, e_fldO, e_isIns, e_isIns_int, e_isIns_bl, e_isIns_str, e_isIns_non, e_isIns_tup, e_isIns_lst, e_asBool, e_negBool, e_addI, e_addW, e_subI, e_ltI, e_leI, e_gtI, e_geI, e_mulW, e_modI, e_fdivI, e_powI, e_pow9, e_pow18, e_pow20, e_lenT, e_lenL, e_intI, e_intB, e_absW, e_tupleL, e_tupleT, e_itemsL, e_itemsT, e_ixL, e_ixT, e_allW, e_anyW, e_sumW, e_rsK, e_rsS, e_tryA, e_tryK_exc, e_tryK_next, e_tryK_ret, e_goneK_next, e_goneK_ret, e_try1, e_try1K_exc, e_try1K_next, e_try1K_ret, e_stopX_next, e_stopX_ret, e_clr_nil, e_clr_v, e_clr_no, e_clr_acc, e_own_xcp, e_xfF, e_xfK, List.getElem?_cons_zero, List.getElem?_cons_succ, List.getElem?_nil, List.set_cons_zero, List.set_cons_succ, List.map_cons, List.map_nil, List.length_cons, List.length_nil, List.cons_append, List.nil_append, List.append_nil, List.replicate, List.filterMap_cons, List.filterMap_nil, Option.map_some, Option.map_none, Option.some_or, Option.none_or, Option.bind_some, Option.bind_none, Nat.add_zero, Nat.zero_add, Nat.reduceAdd, Nat.reduceSub, Nat.reduceLT, Nat.reduceLeDiff, Nat.reduceMul, Nat.sub_zero, Nat.sub_self, if_true, if_false, reduceIte, decide_true, decide_false, Bool.not_true, Bool.not_false, Bool.true_and, Bool.and_true, Bool.false_and, Bool.and_false, Bool.true_or, Bool.or_true, Bool.false_or, Bool.or_false, and_true, true_and, and_false, false_and, or_true, true_or, or_false, false_or, not_true, not_false_iff, reduceCtorEq, eq_self, ne_eq, Bool.false_eq_true, Bool.true_eq_false, List.all_cons, List.all_nil, List.any_cons, List.any_nil, List.contains_cons, List.contains_nil, id_eq, startS, startN, sel, toN, toT, tsNil, tsCons, putX, wipeS, asLen, allW, anyW, sumW, asBools, asInts, max2W, min2W, bbT, isiW, tyN, String.reduceEq, String.reduceBEq, String.reduceNe, eqD_int, Bool.false_xor, Bool.true_xor, Bool.xor_false, Bool.xor_true, Int.reduceEq, Int.reduceLT, Int.reduceLE, Int.reduceAdd, Int.reduceSub, Int.reduceMul, Int.reduceNeg, Int.reducePow, Int.reduceToNat, Int.cast_ofNat_Int, Int.toNat_zero, Int.toNat_one, Int.toNat_natCast, decide_eq_true_eq, atI_lit, cutW_fromL, cutW_toL, cutW_midL, List.drop, List.take, beq_self_eq_true, elim_ite, bind_ite', ofStr_eq, ofStr_beq, zipW, sL, sLt, e1, e2, e3, d]
theorem deal_ok (ns : List Int) (hl : ns.length ≤ 63) (hb : ∀ z ∈ ns, Builtin.Int.intBits z ≤ 1048576) : (f_law_deal [.ro (ns.map .int), .int 0] []).run IsDeal (fun _ => False) := by
  have ha := fun (x0 x1 x2 x3 : Sl) => deal_abs (x0 := x0) (x1 := x1) (x2 := x2) (x3 := x3) (ns.take 60)
  have e1 := e_mulW 331 0 (.inr (by decide))
  obtain ⟨m, s4, h1, h2, h3, h4⟩ := deal_mix (x0 := .v (.ro (ns.map .int))) (x1 := .v (.int 0)) (x2 := .v (.lst (((ns.take 60).map fun z => (z.natAbs : Int)).map .int))) ((ns.take 60).map fun z => (z.natAbs : Int)) 7368787 .no (by decide) (by decide)
  have h3 : ownS (some s4) = false := h3 rfl
  have hc := fun (x0 x1 x2 x3 : Sl) => deal_filter (x0 := x0) (x1 := x1) (x2 := x2) (x3 := x3) ((ns.take 60).map fun z => (z.natAbs : Int))
  have e5 : (7368787 + 331 * 0 : Int) = 7368787 := by decide
  simp only [f_law_deal, g_law_deal, e_elim_elim, e_elim_bind, e_bind_elim, e_bind_bind, e_elim_run, e_bind_run, e_kE, e_kB, e_kR, e_elim_pure, e_elim_throw, e_elim_bad, e_ofO_some, e_ofO_none, e_Mpure, e_Mbind, e_pure_bind, e_throw_bind, e_bad_bind, e_pure_run, e_throw_run, e_bad_run, e_exN, e_sq, e_sqK_next, e_sqK_ret, e_sqK_exc, e_sqK_brk, e_sqK_cont, e_nx, e_brkS, e_contS, e_rtN, e_retK, e_rtS, e_dropK, e_drp, e_ifS, e_ifK, e_nextO, e_nextN, e_asg, e_asgK, e_asgX, e_asgXK, e_asgF, e_asgFK, e_setK, e_binK1, e_binK2, e_bin, e_augI, e_forL_nil, e_forL_cons, e_forB, e_forK_next, e_forK_cont, e_forK_brk, e_forK_ret, e_forK_exc, e_forSK, e_forS, e_itemsK, e_itS, e_rng1N, e_rng1L, e_rng1, e_rng2, e_rng2K, e_rng2J, e_zipK, e_zipL, e_zipT, e_itZip, e_enumK, e_itEnum, e_accOf, e_appK2, e_appK, e_appS, e_extK2, e_extK, e_extS, e_objK, e_stK2, e_stK, e_stO, e_gv, e_gb, e_gvK, e_gbK, e_gbA, e_cw, e_un1K, e_un1, e_unFK, e_unF, e_un1MK, e_un1M, e_binMK2, e_binMK1, e_binM, e_eqDF, e_eqF_not, e_eqF_ins, e_lenF_ins, e_lenF_not, e_noX_pure, e_asBK, e_tst, e_truK, e_tru, e_notK, e_notT, e_andK, e_orK, e_andT, e_orT, e_notVK, e_notV, e_andVK, e_orVK, e_andV, e_orV, e_ifEK, e_ifE, e_isN, e_isNK_non, e_isNK_int, e_isNK_tup, e_isNK_lst, e_isNK_str, e_isNK_bl, e_isNK_ins, e_negK, e_neg1, e_chn, e_chnK1, e_chnK2, e_chnK3, e_aNil, e_consK2, e_consK, e_aCons, e_starK2, e_starK1, e_aStar, e_tupK, e_lstK1, e_dTup, e_dLst, e_lstK, e_lstF, e_frzF, e_frz, e_frzO, e_frzOv, e_frzOn, e_xNil, e_xK2, e_xVK, e_xFK, e_xV, e_xF, e_partK, e_pNone, e_pSome, e_slTK3, e_slTK2, e_slTK1, e_slT, e_slLK3, e_slLK3r, e_slLK2, e_slLK1, e_slL, e_revK, e_revL, e_compK, e_compE, e_compL_nil, e_compL_cons, e_cK1, e_cK2, e_cK3, e_cK4, e_own_no, e_own_none, e_own_v, e_own_acc, e_own_obj, e_yesT, e_callK2, e_callK1, e_callF, e_skK2, e_skK1, e_skK0, e_callSK, e_mthK3, e_mthK2, e_mthK1, e_methF, e_kwF, e_mkF, e_insK, e_insM, e_bindW, e_bindN, e_bindStar, e_badX, e_bodyM, e_bodyN, e_endF_ret, e_endF_next, e_endF_exc, e_endN_next, e_endN_exc, e_objOf, e_recv, e_fldW, e_look, e_fldK, e_fldO, e_isIns, e_isIns_int, e_isIns_bl, e_isIns_str, e_isIns_non, e_isIns_tup, e_isIns_lst, e_asBool, e_negBool, e_addI, e_addW, e_subI, e_ltI, e_leI, e_gtI, e_geI, e_mulW, e_modI, e_fdivI, e_powI, e_pow9, e_pow18, e_pow20, e_lenT, e_lenL, e_intI, e_intB, e_absW, e_tupleL, e_tupleT, e_itemsL, e_itemsT, e_ixL, e_ixT, e_allW, e_anyW, e_sumW, e_rsK, e_rsS, e_tryA, e_tryK_exc, e_tryK_next, e_tryK_ret, e_goneK_next, e_goneK_ret, e_try1, e_try1K_exc, e_try1K_next, e_try1K_ret, e_stopX_next, e_stopX_ret, e_clr_nil, e_clr_v, e_clr_no, e_clr_acc, e_own_xcp, e_xfF, e_xfK, List.getElem?_cons_zero, List.getElem?_cons_succ, List.getElem?_nil, List.set_cons_zero, List.set_cons_succ, List.map_cons, List.map_nil, List.length_cons, List.length_nil, List.cons_append, List.nil_append, List.append_nil, List.replicate, List.filterMap_cons, List.filterMap_nil, Option.map_some, Option.map_none, Option.some_or, Option.none_or, Option.bind_some, Option.bind_none, Nat.add_zero, Nat.zero_add, Nat.reduceAdd, Nat.reduceSub, Nat.reduceLT, Nat.reduceLeDiff, Nat.reduceMul, Nat.sub_zero, Nat.sub_self, if_true, if_false, reduceIte, decide_true, decide_false, Bool.not_true, Bool.not_false, Bool.true_and, Bool.and_true, Bool.false_and, Bool.and_false, Bool.true_or, Bool.or_true, Bool.false_or, Bool.or_false, and_true, true_and, and_false, false_and, or_true, true_or, or_false, false_or, not_true, not_false_iff, reduceCtorEq, eq_self, ne_eq, Bool.false_eq_true, Bool.true_eq_false, List.all_cons, List.all_nil, List.any_cons, List.any_nil, List.contains_cons, List.contains_nil, id_eq, startS, startN, sel, toN, toT, tsNil, tsCons, putX, wipeS, asLen, allW, anyW, sumW, asBools, asInts, max2W, min2W, bbT, isiW, tyN, String.reduceEq, String.reduceBEq, String.reduceNe, eqD_int, Bool.false_xor, Bool.true_xor, Bool.xor_false, Bool.xor_true, Int.reduceEq, Int.reduceLT, Int.reduceLE, Int.reduceAdd, Int.reduceSub, Int.reduceMul, Int.reduceNeg, Int.reducePow, Int.reduceToNat, Int.cast_ofNat_Int, Int.toNat_zero, Int.toNat_one, Int.toNat_natCast, decide_eq_true_eq, atI_lit, cutW_fromL, cutW_toL, cutW_midL, List.drop, List.take, beq_self_eq_true, elim_ite, bind_ite', ofStr_eq, ofStr_beq, zipW, sL, sLt, ← List.map_take, ha, e1, e5, h4, h3, hc]
  refine ⟨_, m, by rw [← List.map_reverse], ?_, ?_, h1, h2⟩
  · intro x hx
    simp only [List.mem_reverse, List.mem_filter, List.mem_map] at hx
    obtain ⟨⟨z, hz, rfl⟩, _⟩ := hx
    exact ⟨Int.natCast_nonneg _, bits_of (hb z (List.mem_of_mem_take hz)) (by decide)⟩
  · rw [List.length_reverse]
    refine Nat.le_trans (List.length_filter_le _ _) ?_
    rw [List.length_map, List.length_take]
    omega

end K04


namespace K04
open PySem Sh
theorem reprW_of {w : W} {d : PyData} (h : toD w = some d) (ok : reprOk d = true) : reprW w = some (.str d.shown) := by
  unfold reprW
  rw [h]
  exact if_pos ok
theorem repr_bl (b : Bool) : reprW (.bl b) = some (.str (if b then "True" else "False")) := by
  cases b
  · rw [reprW_of (d := .bool false) (by rw [toD]) (by decide +kernel)]; rfl
  · rw [reprW_of (d := .bool true) (by rw [toD]) (by decide +kernel)]; rfl
theorem repr_small (n : Nat) (h : n ≤ 2) : ∃ x : Str, reprW (.int (n : Int)) = some (.str x) ∧ PyData.strOk x = true := by
  match n, h with
  | 0, _ => exact ⟨_, reprW_of (d := .int 0) (by rw [toD]; rfl) (by decide +kernel), by decide +kernel⟩
  | 1, _ => exact ⟨_, reprW_of (d := .int 1) (by rw [toD]; rfl) (by decide +kernel), by decide +kernel⟩
  | 2, _ => exact ⟨_, reprW_of (d := .int 2) (by rw [toD]; rfl) (by decide +kernel), by decide +kernel⟩
theorem eqD_str {neg : Bool} {x y : Str} (hx : PyData.strOk x = true) (hy : PyData.strOk y = true) : eqD neg (.str x) (.str y) = some (.bl (neg ^^ decide (x = y))) := by
  rw [eqD_ok (by simpa [okW] using hx) (by simpa [okW] using hy)]
  simp [eqW]
theorem need_thr (fs : List Fm) (l k : Int) (h : k < 0 ∨ (fs.length : Int) < k) (a b : Sl) : True := trivial
theorem reach_bad (fs : List Fm) (l k : Int) (fw : Bool) (h : k < 0 ∨ (fs.length : Int) < k) : f_Ladder_reach__forward [ladW fs l, .int k] [.bl fw] = M.throw ⟨25, ["form"], [.int k]⟩ := by
  have h0 := need_bad fs l k h
  simp only [f_Ladder_reach__forward, g_Ladder_reach, e_elim_elim, e_elim_bind, e_bind_elim, e_bind_bind, e_elim_run, e_bind_run, e_kE, e_kB, e_kR, e_elim_pure, e_elim_throw, e_elim_bad, e_ofO_some, e_ofO_none, e_Mpure, e_Mbind, e_pure_bind, e_throw_bind, e_bad_bind, e_pure_run, e_throw_run, e_bad_run, e_exN, e_sq, e_sqK_next, e_sqK_ret, e_sqK_exc, e_sqK_brk, e_sqK_cont, e_nx, e_brkS, e_contS, e_rtN, e_retK, e_rtS, e_dropK, e_drp, e_ifS, e_ifK, e_nextO, e_nextN, e_asg, e_asgK, e_asgX, e_asgXK, e_asgF, e_asgFK, e_setK, e_binK1, e_binK2, e_bin, e_augI, e_forL_nil, e_forL_cons, e_forB, e_forK_next, e_forK_cont, e_forK_brk, e_forK_ret, e_forK_exc, e_forSK, e_forS, e_itemsK, e_itS, e_rng1N, e_rng1L, e_rng1, e_rng2, e_rng2K, e_rng2J, e_zipK, e_zipL, e_zipT, e_itZip, e_enumK, e_itEnum, e_accOf, e_appK2, e_appK, e_appS, e_extK2, e_extK, e_extS, e_objK, e_stK2, e_stK, e_stO, e_gv, e_gb, e_gvK, e_gbK, e_gbA, e_cw, e_un1K, e_un1, e_unFK, e_unF, e_un1MK, e_un1M, e_binMK2, e_binMK1, e_binM, e_eqDF, e_eqF_not, e_eqF_ins, e_lenF_ins, e_lenF_not, e_noX_pure, e_asBK, e_tst, e_truK, e_tru, e_notK, e_notT, e_andK, e_orK, e_andT, e_orT, e_notVK, e_notV, e_andVK, e_orVK, e_andV, e_orV, e_ifEK, e_ifE, e_isN, e_isNK_non, e_isNK_int, e_isNK_tup, e_isNK_lst, e_isNK_str, e_isNK_bl, e_isNK_ins, e_negK, e_neg1, e_chn, e_chnK1, e_chnK2, e_chnK3, e_aNil, e_consK2, e_consK, e_aCons, e_starK2, e_starK1, e_aStar, e_tupK, e_lstK1, e_dTup, e_dLst, e_lstK, e_lstF, e_frzF, e_frz, e_frzO, e_frzOv, e_frzOn, e_xNil, e_xK2, e_xVK, e_xFK, e_xV, e_xF, e_partK, e_pNone, e_pSome, e_slTK3, e_slTK2, e_slTK1, e_slT, e_slLK3, e_slLK3r, e_slLK2, e_slLK1, e_slL, e_revK, e_revL, e_compK, e_compE, e_compL_nil, e_compL_cons, e_cK1, e_cK2, e_cK3, e_cK4, e_own_no, e_own_none, e_own_v, e_own_acc, e_own_obj, e_yesT, e_callK2, e_callK1, e_callF, e_skK2, e_skK1, e_skK0, e_callSK, e_mthK3, e_mthK2, e_mthK1, e_methF, e_kwF, e_mkF, e_insK, e_insM, e_bindW, e_bindN, e_bindStar, e_badX, e_bodyM, e_bodyN, e_endF_ret, e_endF_next, e_endF_exc, e_endN_next, e_endN_exc, e_objOf, e_recv, e_fldW, e_look, e_fldK, e_fldO, e_isIns, e_isIns_int, e_isIns_bl, e_isIns_str, e_isIns_non, e_isIns_tup, e_isIns_lst, e_asBool, e_negBool, e_addI, e_addW, e_subI, e_ltI, e_leI, e_gtI, e_geI, e_mulW, e_modI, e_fdivI, e_powI, e_pow9, e_pow18, e_pow20, e_lenT, e_lenL, e_intI, e_intB, e_absW, e_tupleL, e_tupleT, e_itemsL, e_itemsT, e_ixL, e_ixT, e_allW, e_anyW, e_sumW, e_rsK, e_rsS, e_tryA, e_tryK_exc, e_tryK_next, e_tryK_ret, e_goneK_next, e_goneK_ret, e_try1, e_try1K_exc, e_try1K_next, e_try1K_ret, e_stopX_next, e_stopX_ret, e_clr_nil, e_clr_v, e_clr_no, e_clr_acc, e_own_xcp, e_xfF, e_xfK, List.getElem?_cons_zero, List.getElem?_cons_succ, List.getElem?_nil, List.set_cons_zero, List.set_cons_succ, List.map_cons, List.map_nil, List.length_cons, List.length_nil, List.cons_append, List.nil_append, List.append_nil, List.replicate, List.filterMap_cons, List.filterMap_nil, Option.map_some, Option.map_none, Option.some_or, Option.none_or, Option.bind_some, Option.bind_none, Nat.add_zero, Nat.zero_add, Nat.reduceAdd, Nat.reduceSub, Nat.reduceLT, Nat.reduceLeDiff, Nat.reduceMul, Nat.sub_zero, Nat.sub_self, if_true, if_false, reduceIte, decide_true, decide_false, Bool.not_true, Bool.not_false, Bool.true_and, Bool.and_true, Bool.false_and, Bool.and_false, Bool.true_or, Bool.or_true, Bool.false_or, Bool.or_false, and_true, true_and, and_false, false_and, or_true, true_or, or_false, false_or, not_true, not_false_iff, reduceCtorEq, eq_self, ne_eq, Bool.false_eq_true, Bool.true_eq_false, List.all_cons, List.all_nil, List.any_cons, List.any_nil, List.contains_cons, List.contains_nil, id_eq, startS, startN, sel, toN, toT, tsNil, tsCons, putX, wipeS, asLen, allW, anyW, sumW, asBools, asInts, max2W, min2W, bbT, isiW, tyN, String.reduceEq, String.reduceBEq, String.reduceNe, eqD_int, Bool.false_xor, Bool.true_xor, Bool.xor_false, Bool.xor_true, Int.reduceEq, Int.reduceLT, Int.reduceLE, Int.reduceAdd, Int.reduceSub, Int.reduceMul, Int.reduceNeg, Int.reducePow, Int.reduceToNat, Int.cast_ofNat_Int, Int.toNat_zero, Int.toNat_one, Int.toNat_natCast, decide_eq_true_eq, atI_lit, cutW_fromL, cutW_toL, cutW_midL, List.drop, List.take, beq_self_eq_true, elim_ite, bind_ite', ofStr_eq, ofStr_beq, zipW, sL, sLt, lad_recv, h0]
theorem reaches_bad (fs : List Fm) (l k d : Int) (fw : Bool) (h : k < 0 ∨ (fs.length : Int) < k) : f_Ladder_reaches__forward [ladW fs l, .int k, .int d] [.bl fw] = M.throw ⟨25, ["form"], [.int k]⟩ := by
  have h0 := reach_bad fs l k fw h
  simp only [f_Ladder_reaches__forward, g_Ladder_reaches, e_elim_elim, e_elim_bind, e_bind_elim, e_bind_bind, e_elim_run, e_bind_run, e_kE, e_kB, e_kR, e_elim_pure, e_elim_throw, e_elim_bad, e_ofO_some, e_ofO_none, e_Mpure, e_Mbind, e_pure_bind, e_throw_bind, e_bad_bind, e_pure_run, e_throw_run, e_bad_run, e_exN, e_sq, e_sqK_next, e_sqK_ret, e_sqK_exc, e_sqK_brk, e_sqK_cont, e_nx, e_brkS, e_contS, e_rtN, e_retK, e_rtS, e_dropK, e_drp, e_ifS, e_ifK, e_nextO, e_nextN, e_asg, e_asgK, e_asgX, e_asgXK, e_asgF, e_asgFK, e_setK, e_binK1, e_binK2, e_bin, e_augI, e_forL_nil, e_forL_cons, e_forB, e_forK_next, e_forK_cont, e_forK_brk, e_forK_ret, e_forK_exc, e_forSK, e_forS, e_itemsK, e_itS, e_rng1N, e_rng1L, e_rng1, e_rng2, e_rng2K, e_rng2J, e_zipK, e_zipL, e_zipT, e_itZip, e_enumK, e_itEnum, e_accOf, e_appK2, e_appK, e_appS, e_extK2, e_extK, e_extS, e_objK, e_stK2, e_stK, e_stO, e_gv, e_gb, e_gvK, e_gbK, e_gbA, e_cw, e_un1K, e_un1, e_unFK, e_unF, e_un1MK, e_un1M, e_binMK2, e_binMK1, e_binM, e_eqDF, e_eqF_not, e_eqF_ins, e_lenF_ins, e_lenF_not, e_noX_pure, e_asBK, e_tst, e_truK, e_tru, e_notK, e_notT, e_andK, e_orK, e_andT, e_orT, e_notVK, e_notV, e_andVK, e_orVK, e_andV, e_orV, e_ifEK, e_ifE, e_isN, e_isNK_non, e_isNK_int, e_isNK_tup, e_isNK_lst, e_isNK_str, e_isNK_bl, e_isNK_ins, e_negK, e_neg1, e_chn, e_chnK1, e_chnK2, e_chnK3, e_aNil, e_consK2, e_consK, e_aCons, e_starK2, e_starK1, e_aStar, e_tupK, e_lstK1, e_dTup, e_dLst, e_lstK, e_lstF, e_frzF, e_frz, e_frzO, e_frzOv, e_frzOn, e_xNil, e_xK2, e_xVK, e_xFK, e_xV, e_xF, e_partK, e_pNone, e_pSome, e_slTK3, e_slTK2, e_slTK1, e_slT, e_slLK3, e_slLK3r, e_slLK2, e_slLK1, e_slL, e_revK, e_revL, e_compK, e_compE, e_compL_nil, e_compL_cons, e_cK1, e_cK2, e_cK3, e_cK4, e_own_no, e_own_none, e_own_v, e_own_acc, e_own_obj, e_yesT, e_callK2, e_callK1, e_callF, e_skK2, e_skK1, e_skK0, e_callSK, e_mthK3, e_mthK2, e_mthK1, e_methF, e_kwF, e_mkF, e_insK, e_insM, e_bindW, e_bindN, e_bindStar, e_badX, e_bodyM, e_bodyN, e_endF_ret, e_endF_next, e_endF_exc, e_endN_next, e_endN_exc, e_objOf, e_recv, e_fldW, e_look, e_fldK, e_fldO, e_isIns, e_isIns_int, e_isIns_bl, e_isIns_str, e_isIns_non, e_isIns_tup, e_isIns_lst, e_asBool, e_negBool, e_addI, e_addW, e_subI, e_ltI, e_leI, e_gtI, e_geI, e_mulW, e_modI, e_fdivI, e_powI, e_pow9, e_pow18, e_pow20, e_lenT, e_lenL, e_intI, e_intB, e_absW, e_tupleL, e_tupleT, e_itemsL, e_itemsT, e_ixL, e_ixT, e_allW, e_anyW, e_sumW, e_rsK, e_rsS, e_tryA, e_tryK_exc, e_tryK_next, e_tryK_ret, e_goneK_next, e_goneK_ret, e_try1, e_try1K_exc, e_try1K_next, e_try1K_ret, e_stopX_next, e_stopX_ret, e_clr_nil, e_clr_v, e_clr_no, e_clr_acc, e_own_xcp, e_xfF, e_xfK, List.getElem?_cons_zero, List.getElem?_cons_succ, List.getElem?_nil, List.set_cons_zero, List.set_cons_succ, List.map_cons, List.map_nil, List.length_cons, List.length_nil, List.cons_append, List.nil_append, List.append_nil, List.replicate, List.filterMap_cons, List.filterMap_nil, Option.map_some, Option.map_none, Option.some_or, Option.none_or, Option.bind_some, Option.bind_none, Nat.add_zero, Nat.zero_add, Nat.reduceAdd, Nat.reduceSub, Nat.reduceLT, Nat.reduceLeDiff, Nat.reduceMul, Nat.sub_zero, Nat.sub_self, if_true, if_false, reduceIte, decide_true, decide_false, Bool.not_true, Bool.not_false, Bool.true_and, Bool.and_true, Bool.false_and, Bool.and_false, Bool.true_or, Bool.or_true, Bool.false_or, Bool.or_false, and_true, true_and, and_false, false_and, or_true, true_or, or_false, false_or, not_true, not_false_iff, reduceCtorEq, eq_self, ne_eq, Bool.false_eq_true, Bool.true_eq_false, List.all_cons, List.all_nil, List.any_cons, List.any_nil, List.contains_cons, List.contains_nil, id_eq, startS, startN, sel, toN, toT, tsNil, tsCons, putX, wipeS, asLen, allW, anyW, sumW, asBools, asInts, max2W, min2W, bbT, isiW, tyN, String.reduceEq, String.reduceBEq, String.reduceNe, eqD_int, Bool.false_xor, Bool.true_xor, Bool.xor_false, Bool.xor_true, Int.reduceEq, Int.reduceLT, Int.reduceLE, Int.reduceAdd, Int.reduceSub, Int.reduceMul, Int.reduceNeg, Int.reducePow, Int.reduceToNat, Int.cast_ofNat_Int, Int.toNat_zero, Int.toNat_one, Int.toNat_natCast, decide_eq_true_eq, atI_lit, cutW_fromL, cutW_toL, cutW_midL, List.drop, List.take, beq_self_eq_true, elim_ite, bind_ite', ofStr_eq, ofStr_beq, zipW, sL, sLt, lad_recv, h0]
theorem first_bad (fs : List Fm) (l k d : Int) (fw : Bool) (h : k < 0 ∨ (fs.length : Int) < k) : f_Ladder_first__forward_least [ladW fs l, .int d] [.bl fw, .int k] = M.throw ⟨25, ["form"], [.int k]⟩ := by
  have h0 := need_bad fs l k h
  simp only [f_Ladder_first__forward_least, g_Ladder_first, e_elim_elim, e_elim_bind, e_bind_elim, e_bind_bind, e_elim_run, e_bind_run, e_kE, e_kB, e_kR, e_elim_pure, e_elim_throw, e_elim_bad, e_ofO_some, e_ofO_none, e_Mpure, e_Mbind, e_pure_bind, e_throw_bind, e_bad_bind, e_pure_run, e_throw_run, e_bad_run, e_exN, e_sq, e_sqK_next, e_sqK_ret, e_sqK_exc, e_sqK_brk, e_sqK_cont, e_nx, e_brkS, e_contS, e_rtN, e_retK, e_rtS, e_dropK, e_drp, e_ifS, e_ifK, e_nextO, e_nextN, e_asg, e_asgK, e_asgX, e_asgXK, e_asgF, e_asgFK, e_setK, e_binK1, e_binK2, e_bin, e_augI, e_forL_nil, e_forL_cons, e_forB, e_forK_next, e_forK_cont, e_forK_brk, e_forK_ret, e_forK_exc, e_forSK, e_forS, e_itemsK, e_itS, e_rng1N, e_rng1L, e_rng1, e_rng2, e_rng2K, e_rng2J, e_zipK, e_zipL, e_zipT, e_itZip, e_enumK, e_itEnum, e_accOf, e_appK2, e_appK, e_appS, e_extK2, e_extK, e_extS, e_objK, e_stK2, e_stK, e_stO, e_gv, e_gb, e_gvK, e_gbK, e_gbA, e_cw, e_un1K, e_un1, e_unFK, e_unF, e_un1MK, e_un1M, e_binMK2, e_binMK1, e_binM, e_eqDF, e_eqF_not, e_eqF_ins, e_lenF_ins, e_lenF_not, e_noX_pure, e_asBK, e_tst, e_truK, e_tru, e_notK, e_notT, e_andK, e_orK, e_andT, e_orT, e_notVK, e_notV, e_andVK, e_orVK, e_andV, e_orV, e_ifEK, e_ifE, e_isN, e_isNK_non, e_isNK_int, e_isNK_tup, e_isNK_lst, e_isNK_str, e_isNK_bl, e_isNK_ins, e_negK, e_neg1, e_chn, e_chnK1, e_chnK2, e_chnK3, e_aNil, e_consK2, e_consK, e_aCons, e_starK2, e_starK1, e_aStar, e_tupK, e_lstK1, e_dTup, e_dLst, e_lstK, e_lstF, e_frzF, e_frz, e_frzO, e_frzOv, e_frzOn, e_xNil, e_xK2, e_xVK, e_xFK, e_xV, e_xF, e_partK, e_pNone, e_pSome, e_slTK3, e_slTK2, e_slTK1, e_slT, e_slLK3, e_slLK3r, e_slLK2, e_slLK1, e_slL, e_revK, e_revL, e_compK, e_compE, e_compL_nil, e_compL_cons, e_cK1, e_cK2, e_cK3, e_cK4, e_own_no, e_own_none, e_own_v, e_own_acc, e_own_obj, e_yesT, e_callK2, e_callK1, e_callF, e_skK2, e_skK1, e_skK0, e_callSK, e_mthK3, e_mthK2, e_mthK1, e_methF, e_kwF, e_mkF, e_insK, e_insM, e_bindW, e_bindN, e_bindStar, e_badX, e_bodyM, e_bodyN, e_endF_ret, e_endF_next, e_endF_exc, e_endN_next, e_endN_exc, e_objOf, e_recv, e_fldW, e_look, e_fldK, e_fldO, e_isIns, e_isIns_int, e_isIns_bl, e_isIns_str, e_isIns_non, e_isIns_tup, e_isIns_lst, e_asBool, e_negBool, e_addI, e_addW, e_subI, e_ltI, e_leI, e_gtI, e_geI, e_mulW, e_modI, e_fdivI, e_powI, e_pow9, e_pow18, e_pow20, e_lenT, e_lenL, e_intI, e_intB, e_absW, e_tupleL, e_tupleT, e_itemsL, e_itemsT, e_ixL, e_ixT, e_allW, e_anyW, e_sumW, e_rsK, e_rsS, e_tryA, e_tryK_exc, e_tryK_next, e_tryK_ret, e_goneK_next, e_goneK_ret, e_try1, e_try1K_exc, e_try1K_next, e_try1K_ret, e_stopX_next, e_stopX_ret, e_clr_nil, e_clr_v, e_clr_no, e_clr_acc, e_own_xcp, e_xfF, e_xfK, List.getElem?_cons_zero, List.getElem?_cons_succ, List.getElem?_nil, List.set_cons_zero, List.set_cons_succ, List.map_cons, List.map_nil, List.length_cons, List.length_nil, List.cons_append, List.nil_append, List.append_nil, List.replicate, List.filterMap_cons, List.filterMap_nil, Option.map_some, Option.map_none, Option.some_or, Option.none_or, Option.bind_some, Option.bind_none, Nat.add_zero, Nat.zero_add, Nat.reduceAdd, Nat.reduceSub, Nat.reduceLT, Nat.reduceLeDiff, Nat.reduceMul, Nat.sub_zero, Nat.sub_self, if_true, if_false, reduceIte, decide_true, decide_false, Bool.not_true, Bool.not_false, Bool.true_and, Bool.and_true, Bool.false_and, Bool.and_false, Bool.true_or, Bool.or_true, Bool.false_or, Bool.or_false, and_true, true_and, and_false, false_and, or_true, true_or, or_false, false_or, not_true, not_false_iff, reduceCtorEq, eq_self, ne_eq, Bool.false_eq_true, Bool.true_eq_false, List.all_cons, List.all_nil, List.any_cons, List.any_nil, List.contains_cons, List.contains_nil, id_eq, startS, startN, sel, toN, toT, tsNil, tsCons, putX, wipeS, asLen, allW, anyW, sumW, asBools, asInts, max2W, min2W, bbT, isiW, tyN, String.reduceEq, String.reduceBEq, String.reduceNe, eqD_int, Bool.false_xor, Bool.true_xor, Bool.xor_false, Bool.xor_true, Int.reduceEq, Int.reduceLT, Int.reduceLE, Int.reduceAdd, Int.reduceSub, Int.reduceMul, Int.reduceNeg, Int.reducePow, Int.reduceToNat, Int.cast_ofNat_Int, Int.toNat_zero, Int.toNat_one, Int.toNat_natCast, decide_eq_true_eq, atI_lit, cutW_fromL, cutW_toL, cutW_midL, List.drop, List.take, beq_self_eq_true, elim_ite, bind_ite', ofStr_eq, ofStr_beq, zipW, sL, sLt, lad_recv, h0]
theorem told_bad (fs : List Fm) (l k d : Int) (fw isf : Bool) (h : k < 0 ∨ (fs.length : Int) < k) : f_law_told [ladW fs l, .int k, .int d, .bl fw, .bl isf] [] = pure (.tup [.str "none", .int k]) := by
  have h0 := reaches_bad fs l k d fw h
  have h1 := first_bad fs l k d fw h
  cases isf <;> simp only [f_law_told, g_law_told, e_elim_elim, e_elim_bind, e_bind_elim, e_bind_bind, e_elim_run, e_bind_run, e_kE, e_kB, e_kR, e_elim_pure, e_elim_throw, e_elim_bad, e_ofO_some, e_ofO_none, e_Mpure, e_Mbind, e_pure_bind, e_throw_bind, e_bad_bind, e_pure_run, e_throw_run, e_bad_run, e_exN, e_sq, e_sqK_next, e_sqK_ret, e_sqK_exc, e_sqK_brk, e_sqK_cont, e_nx, e_brkS, e_contS, e_rtN, e_retK, e_rtS, e_dropK, e_drp, e_ifS, e_ifK, e_nextO, e_nextN, e_asg, e_asgK, e_asgX, e_asgXK, e_asgF, e_asgFK, e_setK, e_binK1, e_binK2, e_bin, e_augI, e_forL_nil, e_forL_cons, e_forB, e_forK_next, e_forK_cont, e_forK_brk, e_forK_ret, e_forK_exc, e_forSK, e_forS, e_itemsK, e_itS, e_rng1N, e_rng1L, e_rng1, e_rng2, e_rng2K, e_rng2J, e_zipK, e_zipL, e_zipT, e_itZip, e_enumK, e_itEnum, e_accOf, e_appK2, e_appK, e_appS, e_extK2, e_extK, e_extS, e_objK, e_stK2, e_stK, e_stO, e_gv, e_gb, e_gvK, e_gbK, e_gbA, e_cw, e_un1K, e_un1, e_unFK, e_unF, e_un1MK, e_un1M, e_binMK2, e_binMK1, e_binM, e_eqDF, e_eqF_not, e_eqF_ins, e_lenF_ins, e_lenF_not, e_noX_pure, e_asBK, e_tst, e_truK, e_tru, e_notK, e_notT, e_andK, e_orK, e_andT, e_orT, e_notVK, e_notV, e_andVK, e_orVK, e_andV, e_orV, e_ifEK, e_ifE, e_isN, e_isNK_non, e_isNK_int, e_isNK_tup, e_isNK_lst, e_isNK_str, e_isNK_bl, e_isNK_ins, e_negK, e_neg1, e_chn, e_chnK1, e_chnK2, e_chnK3, e_aNil, e_consK2, e_consK, e_aCons, e_starK2, e_starK1, e_aStar, e_tupK, e_lstK1, e_dTup, e_dLst, e_lstK, e_lstF, e_frzF, e_frz, e_frzO, e_frzOv, e_frzOn, e_xNil, e_xK2, e_xVK, e_xFK, e_xV, e_xF, e_partK, e_pNone, e_pSome, e_slTK3, e_slTK2, e_slTK1, e_slT, e_slLK3, e_slLK3r, e_slLK2, e_slLK1, e_slL, e_revK, e_revL, e_compK, e_compE, e_compL_nil, e_compL_cons, e_cK1, e_cK2, e_cK3, e_cK4, e_own_no, e_own_none, e_own_v, e_own_acc, e_own_obj, e_yesT, e_callK2, e_callK1, e_callF, e_skK2, e_skK1, e_skK0, e_callSK, e_mthK3, e_mthK2, e_mthK1, e_methF, e_kwF, e_mkF, e_insK, e_insM, e_bindW, e_bindN, e_bindStar, e_badX, e_bodyM, e_bodyN, e_endF_ret, e_endF_next, e_endF_exc, e_endN_next, e_endN_exc, e_objOf, e_recv, e_fldW, e_look, e_fldK, e_fldO, e_isIns, e_isIns_int, e_isIns_bl, e_isIns_str, e_isIns_non, e_isIns_tup, e_isIns_lst, e_asBool, e_negBool, e_addI, e_addW, e_subI, e_ltI, e_leI, e_gtI, e_geI, e_mulW, e_modI, e_fdivI, e_powI, e_pow9, e_pow18, e_pow20, e_lenT, e_lenL, e_intI, e_intB, e_absW, e_tupleL, e_tupleT, e_itemsL, e_itemsT, e_ixL, e_ixT, e_allW, e_anyW, e_sumW, e_rsK, e_rsS, e_tryA, e_tryK_exc, e_tryK_next, e_tryK_ret, e_goneK_next, e_goneK_ret, e_try1, e_try1K_exc, e_try1K_next, e_try1K_ret, e_stopX_next, e_stopX_ret, e_clr_nil, e_clr_v, e_clr_no, e_clr_acc, e_own_xcp, e_xfF, e_xfK, List.getElem?_cons_zero, List.getElem?_cons_succ, List.getElem?_nil, List.set_cons_zero, List.set_cons_succ, List.map_cons, List.map_nil, List.length_cons, List.length_nil, List.cons_append, List.nil_append, List.append_nil, List.replicate, List.filterMap_cons, List.filterMap_nil, Option.map_some, Option.map_none, Option.some_or, Option.none_or, Option.bind_some, Option.bind_none, Nat.add_zero, Nat.zero_add, Nat.reduceAdd, Nat.reduceSub, Nat.reduceLT, Nat.reduceLeDiff, Nat.reduceMul, Nat.sub_zero, Nat.sub_self, if_true, if_false, reduceIte, decide_true, decide_false, Bool.not_true, Bool.not_false, Bool.true_and, Bool.and_true, Bool.false_and, Bool.and_false, Bool.true_or, Bool.or_true, Bool.false_or, Bool.or_false, and_true, true_and, and_false, false_and, or_true, true_or, or_false, false_or, not_true, not_false_iff, reduceCtorEq, eq_self, ne_eq, Bool.false_eq_true, Bool.true_eq_false, List.all_cons, List.all_nil, List.any_cons, List.any_nil, List.contains_cons, List.contains_nil, id_eq, startS, startN, sel, toN, toT, tsNil, tsCons, putX, wipeS, asLen, allW, anyW, sumW, asBools, asInts, max2W, min2W, bbT, isiW, tyN, String.reduceEq, String.reduceBEq, String.reduceNe, eqD_int, Bool.false_xor, Bool.true_xor, Bool.xor_false, Bool.xor_true, Int.reduceEq, Int.reduceLT, Int.reduceLE, Int.reduceAdd, Int.reduceSub, Int.reduceMul, Int.reduceNeg, Int.reducePow, Int.reduceToNat, Int.cast_ofNat_Int, Int.toNat_zero, Int.toNat_one, Int.toNat_natCast, decide_eq_true_eq, atI_lit, cutW_fromL, cutW_toL, cutW_midL, List.drop, List.take, beq_self_eq_true, elim_ite, bind_ite', ofStr_eq, ofStr_beq, zipW, sL, sLt, lad_recv, h0, h1]
theorem told_ok (fs : List Fm) (l : Int) (k : Nat) (d : Int) (fw isf : Bool) (h : k ≤ fs.length) : f_law_told [ladW fs l, .int k, .int d, .bl fw, .bl isf] [] = pure (if isf = true then .int (frst fs fw d k) else .bl (fits fs k fw d)) := by
  have h0 := reaches_ok fs l k fw d h
  have h1 := first_go fs l k fw d h
  cases isf <;> simp only [f_law_told, g_law_told, e_elim_elim, e_elim_bind, e_bind_elim, e_bind_bind, e_elim_run, e_bind_run, e_kE, e_kB, e_kR, e_elim_pure, e_elim_throw, e_elim_bad, e_ofO_some, e_ofO_none, e_Mpure, e_Mbind, e_pure_bind, e_throw_bind, e_bad_bind, e_pure_run, e_throw_run, e_bad_run, e_exN, e_sq, e_sqK_next, e_sqK_ret, e_sqK_exc, e_sqK_brk, e_sqK_cont, e_nx, e_brkS, e_contS, e_rtN, e_retK, e_rtS, e_dropK, e_drp, e_ifS, e_ifK, e_nextO, e_nextN, e_asg, e_asgK, e_asgX, e_asgXK, e_asgF, e_asgFK, e_setK, e_binK1, e_binK2, e_bin, e_augI, e_forL_nil, e_forL_cons, e_forB, e_forK_next, e_forK_cont, e_forK_brk, e_forK_ret, e_forK_exc, e_forSK, e_forS, e_itemsK, e_itS, e_rng1N, e_rng1L, e_rng1, e_rng2, e_rng2K, e_rng2J, e_zipK, e_zipL, e_zipT, e_itZip, e_enumK, e_itEnum, e_accOf, e_appK2, e_appK, e_appS, e_extK2, e_extK, e_extS, e_objK, e_stK2, e_stK, e_stO, e_gv, e_gb, e_gvK, e_gbK, e_gbA, e_cw, e_un1K, e_un1, e_unFK, e_unF, e_un1MK, e_un1M, e_binMK2, e_binMK1, e_binM, e_eqDF, e_eqF_not, e_eqF_ins, e_lenF_ins, e_lenF_not, e_noX_pure, e_asBK, e_tst, e_truK, e_tru, e_notK, e_notT, e_andK, e_orK, e_andT, e_orT, e_notVK, e_notV, e_andVK, e_orVK, e_andV, e_orV, e_ifEK, e_ifE, e_isN, e_isNK_non, e_isNK_int, e_isNK_tup, e_isNK_lst, e_isNK_str, e_isNK_bl, e_isNK_ins, e_negK, e_neg1, e_chn, e_chnK1, e_chnK2, e_chnK3, e_aNil, e_consK2, e_consK, e_aCons, e_starK2, e_starK1, e_aStar, e_tupK, e_lstK1, e_dTup, e_dLst, e_lstK, e_lstF, e_frzF, e_frz, e_frzO, e_frzOv, e_frzOn, e_xNil, e_xK2, e_xVK, e_xFK, e_xV, e_xF, e_partK, e_pNone, e_pSome, e_slTK3, e_slTK2, e_slTK1, e_slT, e_slLK3, e_slLK3r, e_slLK2, e_slLK1, e_slL, e_revK, e_revL, e_compK, e_compE, e_compL_nil, e_compL_cons, e_cK1, e_cK2, e_cK3, e_cK4, e_own_no, e_own_none, e_own_v, e_own_acc, e_own_obj, e_yesT, e_callK2, e_callK1, e_callF, e_skK2, e_skK1, e_skK0, e_callSK, e_mthK3, e_mthK2, e_mthK1, e_methF, e_kwF, e_mkF, e_insK, e_insM, e_bindW, e_bindN, e_bindStar, e_badX, e_bodyM, e_bodyN, e_endF_ret, e_endF_next, e_endF_exc, e_endN_next, e_endN_exc, e_objOf, e_recv, e_fldW, e_look, e_fldK, e_fldO, e_isIns, e_isIns_int, e_isIns_bl, e_isIns_str, e_isIns_non, e_isIns_tup, e_isIns_lst, e_asBool, e_negBool, e_addI, e_addW, e_subI, e_ltI, e_leI, e_gtI, e_geI, e_mulW, e_modI, e_fdivI, e_powI, e_pow9, e_pow18, e_pow20, e_lenT, e_lenL, e_intI, e_intB, e_absW, e_tupleL, e_tupleT, e_itemsL, e_itemsT, e_ixL, e_ixT, e_allW, e_anyW, e_sumW, e_rsK, e_rsS, e_tryA, e_tryK_exc, e_tryK_next, e_tryK_ret, e_goneK_next, e_goneK_ret, e_try1, e_try1K_exc, e_try1K_next, e_try1K_ret, e_stopX_next, e_stopX_ret, e_clr_nil, e_clr_v, e_clr_no, e_clr_acc, e_own_xcp, e_xfF, e_xfK, List.getElem?_cons_zero, List.getElem?_cons_succ, List.getElem?_nil, List.set_cons_zero, List.set_cons_succ, List.map_cons, List.map_nil, List.length_cons, List.length_nil, List.cons_append, List.nil_append, List.append_nil, List.replicate, List.filterMap_cons, List.filterMap_nil, Option.map_some, Option.map_none, Option.some_or, Option.none_or, Option.bind_some, Option.bind_none, Nat.add_zero, Nat.zero_add, Nat.reduceAdd, Nat.reduceSub, Nat.reduceLT, Nat.reduceLeDiff, Nat.reduceMul, Nat.sub_zero, Nat.sub_self, if_true, if_false, reduceIte, decide_true, decide_false, Bool.not_true, Bool.not_false, Bool.true_and, Bool.and_true, Bool.false_and, Bool.and_false, Bool.true_or, Bool.or_true, Bool.false_or, Bool.or_false, and_true, true_and, and_false, false_and, or_true, true_or, or_false, false_or, not_true, not_false_iff, reduceCtorEq, eq_self, ne_eq, Bool.false_eq_true, Bool.true_eq_false, List.all_cons, List.all_nil, List.any_cons, List.any_nil, List.contains_cons, List.contains_nil, id_eq, startS, startN, sel, toN, toT, tsNil, tsCons, putX, wipeS, asLen, allW, anyW, sumW, asBools, asInts, max2W, min2W, bbT, isiW, tyN, String.reduceEq, String.reduceBEq, String.reduceNe, eqD_int, Bool.false_xor, Bool.true_xor, Bool.xor_false, Bool.xor_true, Int.reduceEq, Int.reduceLT, Int.reduceLE, Int.reduceAdd, Int.reduceSub, Int.reduceMul, Int.reduceNeg, Int.reducePow, Int.reduceToNat, Int.cast_ofNat_Int, Int.toNat_zero, Int.toNat_one, Int.toNat_natCast, decide_eq_true_eq, atI_lit, cutW_fromL, cutW_toL, cutW_midL, List.drop, List.take, beq_self_eq_true, elim_ite, bind_ite', ofStr_eq, ofStr_beq, zipW, sL, sLt, lad_recv, h0, h1]
theorem far_ok (fs : List Fm) (l : Int) (k : Nat) (d : Int) (fw : Bool) (h : k ≤ fs.length) : f_law_is_far [.tup [.tup (fs.map fW), .int l], .int k, .int d, .bl fw] [] = pure (.bl (!fits fs k fw d)) := by
  by_cases e : k = fs.length
  · subst e
    have n : ¬ ((fs.length : Int) < ((fs.map fW).length : Int)) := by simp
    have f : fits fs fs.length fw d = true := by simp [fits, rch]
    simp only [f_law_is_far, g_law_is_far, e_elim_elim, e_elim_bind, e_bind_elim, e_bind_bind, e_elim_run, e_bind_run, e_kE, e_kB, e_kR, e_elim_pure, e_elim_throw, e_elim_bad, e_ofO_some, e_ofO_none, e_Mpure, e_Mbind, e_pure_bind, e_throw_bind, e_bad_bind, e_pure_run, e_throw_run, e_bad_run, e_exN, e_sq, e_sqK_next, e_sqK_ret, e_sqK_exc, e_sqK_brk, e_sqK_cont, e_nx, e_brkS, e_contS, e_rtN, e_retK, e_rtS, e_dropK, e_drp, e_ifS, e_ifK, e_nextO, e_nextN, e_asg, e_asgK, e_asgX, e_asgXK, e_asgF, e_asgFK, e_setK, e_binK1, e_binK2, e_bin, e_augI, e_forL_nil, e_forL_cons, e_forB, e_forK_next, e_forK_cont, e_forK_brk, e_forK_ret, e_forK_exc, e_forSK, e_forS, e_itemsK, e_itS, e_rng1N, e_rng1L, e_rng1, e_rng2, e_rng2K, e_rng2J, e_zipK, e_zipL, e_zipT, e_itZip, e_enumK, e_itEnum, e_accOf, e_appK2, e_appK, e_appS, e_extK2, e_extK, e_extS, e_objK, e_stK2, e_stK, e_stO, e_gv, e_gb, e_gvK, e_gbK, e_gbA, e_cw, e_un1K, e_un1, e_unFK, e_unF, e_un1MK, e_un1M, e_binMK2, e_binMK1, e_binM, e_eqDF, e_eqF_not, e_eqF_ins, e_lenF_ins, e_lenF_not, e_noX_pure, e_asBK, e_tst, e_truK, e_tru, e_notK, e_notT, e_andK, e_orK, e_andT, e_orT, e_notVK, e_notV, e_andVK, e_orVK, e_andV, e_orV, e_ifEK, e_ifE, e_isN, e_isNK_non, e_isNK_int, e_isNK_tup, e_isNK_lst, e_isNK_str, e_isNK_bl, e_isNK_ins, e_negK, e_neg1, e_chn, e_chnK1, e_chnK2, e_chnK3, e_aNil, e_consK2, e_consK, e_aCons, e_starK2, e_starK1, e_aStar, e_tupK, e_lstK1, e_dTup, e_dLst, e_lstK, e_lstF, e_frzF, e_frz, e_frzO, e_frzOv, e_frzOn, e_xNil, e_xK2, e_xVK, e_xFK, e_xV, e_xF, e_partK, e_pNone, e_pSome, e_slTK3, e_slTK2, e_slTK1, e_slT, e_slLK3, e_slLK3r, e_slLK2, e_slLK1, e_slL, e_revK, e_revL, e_compK, e_compE, e_compL_nil, e_compL_cons, e_cK1, e_cK2, e_cK3, e_cK4, e_own_no, e_own_none, e_own_v, e_own_acc, e_own_obj, e_yesT, e_callK2, e_callK1, e_callF, e_skK2, e_skK1, e_skK0, e_callSK, e_mthK3, e_mthK2, e_mthK1, e_methF, e_kwF, e_mkF, e_insK, e_insM, e_bindW, e_bindN, e_bindStar, e_badX, e_bodyM, e_bodyN, e_endF_ret, e_endF_next, e_endF_exc, e_endN_next, e_endN_exc, e_objOf, e_recv, e_fldW, e_look, e_fldK, e_fldO, e_isIns, e_isIns_int, e_isIns_bl, e_isIns_str, e_isIns_non, e_isIns_tup, e_isIns_lst, e_asBool, e_negBool, e_addI, e_addW, e_subI, e_ltI, e_leI, e_gtI, e_geI, e_mulW, e_modI, e_fdivI, e_powI, e_pow9, e_pow18, e_pow20, e_lenT, e_lenL, e_intI, e_intB, e_absW, e_tupleL, e_tupleT, e_itemsL, e_itemsT, e_ixL, e_ixT, e_allW, e_anyW, e_sumW, e_rsK, e_rsS, e_tryA, e_tryK_exc, e_tryK_next, e_tryK_ret, e_goneK_next, e_goneK_ret, e_try1, e_try1K_exc, e_try1K_next, e_try1K_ret, e_stopX_next, e_stopX_ret, e_clr_nil, e_clr_v, e_clr_no, e_clr_acc, e_own_xcp, e_xfF, e_xfK, List.getElem?_cons_zero, List.getElem?_cons_succ, List.getElem?_nil, List.set_cons_zero, List.set_cons_succ, List.map_cons, List.map_nil, List.length_cons, List.length_nil, List.cons_append, List.nil_append, List.append_nil, List.replicate, List.filterMap_cons, List.filterMap_nil, Option.map_some, Option.map_none, Option.some_or, Option.none_or, Option.bind_some, Option.bind_none, Nat.add_zero, Nat.zero_add, Nat.reduceAdd, Nat.reduceSub, Nat.reduceLT, Nat.reduceLeDiff, Nat.reduceMul, Nat.sub_zero, Nat.sub_self, if_true, if_false, reduceIte, decide_true, decide_false, Bool.not_true, Bool.not_false, Bool.true_and, Bool.and_true, Bool.false_and, Bool.and_false, Bool.true_or, Bool.or_true, Bool.false_or, Bool.or_false, and_true, true_and, and_false, false_and, or_true, true_or, or_false, false_or, not_true, not_false_iff, reduceCtorEq, eq_self, ne_eq, Bool.false_eq_true, Bool.true_eq_false, List.all_cons, List.all_nil, List.any_cons, List.any_nil, List.contains_cons, List.contains_nil, id_eq, startS, startN, sel, toN, toT, tsNil, tsCons, putX, wipeS, asLen, allW, anyW, sumW, asBools, asInts, max2W, min2W, bbT, isiW, tyN, String.reduceEq, String.reduceBEq, String.reduceNe, eqD_int, Bool.false_xor, Bool.true_xor, Bool.xor_false, Bool.xor_true, Int.reduceEq, Int.reduceLT, Int.reduceLE, Int.reduceAdd, Int.reduceSub, Int.reduceMul, Int.reduceNeg, Int.reducePow, Int.reduceToNat, Int.cast_ofNat_Int, Int.toNat_zero, Int.toNat_one, Int.toNat_natCast, decide_eq_true_eq, atI_lit, cutW_fromL, cutW_toL, cutW_midL, List.drop, List.take, beq_self_eq_true, elim_ite, bind_ite', ofStr_eq, ofStr_beq, zipW, sL, sLt, n, f]
  · have hk : k < fs.length := by omega
    have n : ((k : Int) < ((fs.map fW).length : Int)) := by simp; omega
    have f : fits fs k fw d = decide (d ≤ if fw = true then fs[k].2.2 else fs[k].2.1) := by
      simp only [fits, rch, List.getElem?_eq_getElem hk, Option.map_some]
    have c : ∀ m : Int, decide (m < d) = !decide (d ≤ m) := fun m => by
      by_cases z : m < d
      · rw [decide_eq_true z, decide_eq_false (by omega)]; rfl
      · rw [decide_eq_false z, decide_eq_true (by omega)]; rfl
    cases fw <;> simp only [f_law_is_far, g_law_is_far, e_elim_elim, e_elim_bind, e_bind_elim, e_bind_bind, e_elim_run, e_bind_run, e_kE, e_kB, e_kR, e_elim_pure, e_elim_throw, e_elim_bad, e_ofO_some, e_ofO_none, e_Mpure, e_Mbind, e_pure_bind, e_throw_bind, e_bad_bind, e_pure_run, e_throw_run, e_bad_run, e_exN, e_sq, e_sqK_next, e_sqK_ret, e_sqK_exc, e_sqK_brk, e_sqK_cont, e_nx, e_brkS, e_contS, e_rtN, e_retK, e_rtS, e_dropK, e_drp, e_ifS, e_ifK, e_nextO, e_nextN, e_asg, e_asgK, e_asgX, e_asgXK, e_asgF, e_asgFK, e_setK, e_binK1, e_binK2, e_bin, e_augI, e_forL_nil, e_forL_cons, e_forB, e_forK_next, e_forK_cont, e_forK_brk, e_forK_ret, e_forK_exc, e_forSK, e_forS, e_itemsK, e_itS, e_rng1N, e_rng1L, e_rng1, e_rng2, e_rng2K, e_rng2J, e_zipK, e_zipL, e_zipT, e_itZip, e_enumK, e_itEnum, e_accOf, e_appK2, e_appK, e_appS, e_extK2, e_extK, e_extS, e_objK, e_stK2, e_stK, e_stO, e_gv, e_gb, e_gvK, e_gbK, e_gbA, e_cw, e_un1K, e_un1, e_unFK, e_unF, e_un1MK, e_un1M, e_binMK2, e_binMK1, e_binM, e_eqDF, e_eqF_not, e_eqF_ins, e_lenF_ins, e_lenF_not, e_noX_pure, e_asBK, e_tst, e_truK, e_tru, e_notK, e_notT, e_andK, e_orK, e_andT, e_orT, e_notVK, e_notV, e_andVK, e_orVK, e_andV, e_orV, e_ifEK, e_ifE, e_isN, e_isNK_non, e_isNK_int, e_isNK_tup, e_isNK_lst, e_isNK_str, e_isNK_bl, e_isNK_ins, e_negK, e_neg1, e_chn, e_chnK1, e_chnK2, e_chnK3, e_aNil, e_consK2, e_consK, e_aCons, e_starK2, e_starK1, e_aStar, e_tupK, e_lstK1, e_dTup, e_dLst, e_lstK, e_lstF, e_frzF, e_frz, e_frzO, e_frzOv, e_frzOn, e_xNil, e_xK2, e_xVK, e_xFK, e_xV, e_xF, e_partK, e_pNone, e_pSome, e_slTK3, e_slTK2, e_slTK1, e_slT, e_slLK3, e_slLK3r, e_slLK2, e_slLK1, e_slL, e_revK, e_revL, e_compK, e_compE, e_compL_nil, e_compL_cons, e_cK1, e_cK2, e_cK3, e_cK4, e_own_no, e_own_none, e_own_v, e_own_acc, e_own_obj, e_yesT, e_callK2, e_callK1, e_callF, e_skK2, e_skK1, e_skK0, e_callSK, e_mthK3, e_mthK2, e_mthK1, e_methF, e_kwF, e_mkF, e_insK, e_insM, e_bindW, e_bindN, e_bindStar, e_badX, e_bodyM, e_bodyN, e_endF_ret, e_endF_next, e_endF_exc, e_endN_next, e_endN_exc, e_objOf, e_recv, e_fldW, e_look, e_fldK, e_fldO, e_isIns, e_isIns_int, e_isIns_bl, e_isIns_str, e_isIns_non, e_isIns_tup, e_isIns_lst, e_asBool, e_negBool, e_addI, e_addW, e_subI, e_ltI, e_leI, e_gtI, e_geI, e_mulW, e_modI, e_fdivI, e_powI, e_pow9, e_pow18, e_pow20, e_lenT, e_lenL, e_intI, e_intB, e_absW, e_tupleL, e_tupleT, e_itemsL, e_itemsT, e_ixL, e_ixT, e_allW, e_anyW, e_sumW, e_rsK, e_rsS, e_tryA, e_tryK_exc, e_tryK_next, e_tryK_ret, e_goneK_next, e_goneK_ret, e_try1, e_try1K_exc, e_try1K_next, e_try1K_ret, e_stopX_next, e_stopX_ret, e_clr_nil, e_clr_v, e_clr_no, e_clr_acc, e_own_xcp, e_xfF, e_xfK, List.getElem?_cons_zero, List.getElem?_cons_succ, List.getElem?_nil, List.set_cons_zero, List.set_cons_succ, List.map_cons, List.map_nil, List.length_cons, List.length_nil, List.cons_append, List.nil_append, List.append_nil, List.replicate, List.filterMap_cons, List.filterMap_nil, Option.map_some, Option.map_none, Option.some_or, Option.none_or, Option.bind_some, Option.bind_none, Nat.add_zero, Nat.zero_add, Nat.reduceAdd, Nat.reduceSub, Nat.reduceLT, Nat.reduceLeDiff, Nat.reduceMul, Nat.sub_zero, Nat.sub_self, if_true, if_false, reduceIte, decide_true, decide_false, Bool.not_true, Bool.not_false, Bool.true_and, Bool.and_true, Bool.false_and, Bool.and_false, Bool.true_or, Bool.or_true, Bool.false_or, Bool.or_false, and_true, true_and, and_false, false_and, or_true, true_or, or_false, false_or, not_true, not_false_iff, reduceCtorEq, eq_self, ne_eq, Bool.false_eq_true, Bool.true_eq_false, List.all_cons, List.all_nil, List.any_cons, List.any_nil, List.contains_cons, List.contains_nil, id_eq, startS, startN, sel, toN, toT, tsNil, tsCons, putX, wipeS, asLen, allW, anyW, sumW, asBools, asInts, max2W, min2W, bbT, isiW, tyN, String.reduceEq, String.reduceBEq, String.reduceNe, eqD_int, Bool.false_xor, Bool.true_xor, Bool.xor_false, Bool.xor_true, Int.reduceEq, Int.reduceLT, Int.reduceLE, Int.reduceAdd, Int.reduceSub, Int.reduceMul, Int.reduceNeg, Int.reducePow, Int.reduceToNat, Int.cast_ofNat_Int, Int.toNat_zero, Int.toNat_one, Int.toNat_natCast, decide_eq_true_eq, atI_lit, cutW_fromL, cutW_toL, cutW_midL, List.drop, List.take, beq_self_eq_true, elim_ite, bind_ite', ofStr_eq, ofStr_beq, zipW, sL, sLt, n, f, atI_nat, List.getElem?_map, List.getElem?_eq_getElem hk, fW, c]
theorem hd_ok (fs : List Fm) (l : Int) (d : Int) (fw : Bool) {x0 x1 x2 x3 x4 x5 x6 x7 x8 x9 x10 : Sl} (e1 : x1 = .v (.tup [.tup (fs.map fW), .int l])) (e3 : x3 = .v (.int d)) (e4 : x4 = .v (.bl fw)) : ∀ (n k : Nat), k + n = fs.length + 1 → 0 < n → ∃ r, compL (toN 11) (notT (tst (callF f_law_is_far (aCons (gv 1) (aCons (gv 11) (aCons (gv 3) (aCons (gv 4) (aNil))))) aNil))) (gv 11) (rngW k n) [x0, x1, x2, x3, x4, x5, x6, x7, x8, x9, x10, .no] = pure (.int (frst fs fw d k) :: r) := by
  subst e1 e3 e4
  have rn : ∀ (k : Nat) (n : Nat), rngW k (n + 1) = .int k :: rngW ((k + 1 : Nat) : Int) n := fun k n => by
    simp only [rngW, List.range_succ_eq_map, List.map_cons, List.map_map]
    have e0 : (k : Int) + ((0 : Nat) : Int) = k := by omega
    rw [e0]
    refine congrArg _ (List.map_congr_left fun i _ => ?_)
    show W.int ((k : Int) + ((i + 1 : Nat) : Int)) = W.int (((k + 1 : Nat) : Int) + (i : Int))
    congr 1
    omega
  have all : ∀ (n k : Nat), k + n = fs.length + 1 → ∃ r, compL (toN 11) (notT (tst (callF f_law_is_far (aCons (gv 1) (aCons (gv 11) (aCons (gv 3) (aCons (gv 4) (aNil))))) aNil))) (gv 11) (rngW k n) [x0, .v (.tup [.tup (fs.map fW), .int l]), x2, .v (.int d), .v (.bl fw), x5, x6, x7, x8, x9, x10, .no] = pure r ∧ (0 < n → ∃ r', r = .int (frst fs fw d k) :: r') := by
    intro n
    induction n with
    | zero => exact fun k _ => ⟨[], rfl, fun h => absurd h (by decide)⟩
    | succ n ih =>
      intro k hk
      obtain ⟨r, h1, h2⟩ := ih (k + 1) (by omega)
      have hf := far_ok fs l k d fw (by omega)
      cases e : fits fs k fw d with
      | true =>
        refine ⟨.int k :: r, ?_, fun _ => ⟨r, by rw [frst_eq, if_neg (by simp [e])]⟩⟩
        rw [rn]
        simp only [e_elim_elim, e_elim_bind, e_bind_elim, e_bind_bind, e_elim_run, e_bind_run, e_kE, e_kB, e_kR, e_elim_pure, e_elim_throw, e_elim_bad, e_ofO_some, e_ofO_none, e_Mpure, e_Mbind, e_pure_bind, e_throw_bind, e_bad_bind, e_pure_run, e_throw_run, e_bad_run, e_exN, e_sq, e_sqK_next, e_sqK_ret, e_sqK_exc, e_sqK_brk, e_sqK_cont, e_nx, e_brkS, e_contS, e_rtN, e_retK, e_rtS, e_dropK, e_drp, e_ifS, e_ifK, e_nextO, e_nextN, e_asg, e_asgK, e_asgX, e_asgXK, e_asgF, e_asgFK, e_setK, e_binK1, e_binK2, e_bin, e_augI, e_forL_nil, e_forL_cons, e_forB, e_forK_next, e_forK_cont, e_forK_brk, e_forK_ret, e_forK_exc, e_forSK, e_forS, e_itemsK, e_itS, e_rng1N, e_rng1L, e_rng1, e_rng2, e_rng2K, e_rng2J, e_zipK, e_zipL, e_zipT, e_itZip, e_enumK, e_itEnum, e_accOf, e_appK2, e_appK, e_appS, e_extK2, e_extK, e_extS, e_objK, e_stK2, e_stK, e_stO, e_gv, e_gb, e_gvK, e_gbK, e_gbA, e_cw, e_un1K, e_un1, e_unFK, e_unF, e_un1MK, e_un1M, e_binMK2, e_binMK1, e_binM, e_eqDF, e_eqF_not, e_eqF_ins, e_lenF_ins, e_lenF_not, e_noX_pure, e_asBK, e_tst, e_truK, e_tru, e_notK, e_notT, e_andK, e_orK, e_andT, e_orT, e_notVK, e_notV, e_andVK, e_orVK, e_andV, e_orV, e_ifEK, e_ifE, e_isN, e_isNK_non, e_isNK_int, e_isNK_tup, e_isNK_lst, e_isNK_str, e_isNK_bl, e_isNK_ins, e_negK, e_neg1, e_chn, e_chnK1, e_chnK2, e_chnK3, e_aNil, e_consK2, e_consK, e_aCons, e_starK2, e_starK1, e_aStar, e_tupK, e_lstK1, e_dTup, e_dLst, e_lstK, e_lstF, e_frzF, e_frz, e_frzO, e_frzOv, e_frzOn, e_xNil, e_xK2, e_xVK, e_xFK, e_xV, e_xF, e_partK, e_pNone, e_pSome, e_slTK3, e_slTK2, e_slTK1, e_slT, e_slLK3, e_slLK3r, e_slLK2, e_slLK1, e_slL, e_revK, e_revL, e_compK, e_compE, e_compL_nil, e_compL_cons, e_cK1, e_cK2, e_cK3, e_cK4, e_own_no, e_own_none, e_own_v, e_own_acc, e_own_obj, e_yesT, e_callK2, e_callK1, e_callF, e_skK2, e_skK1, e_skK0, e_callSK, e_mthK3, e_mthK2, e_mthK1, e_methF, e_kwF, e_mkF, e_insK, e_insM, e_bindW, e_bindN, e_bindStar, e_badX, e_bodyM, e_bodyN, e_endF_ret, e_endF_next, e_endF_exc, e_endN_next, e_endN_exc, e_objOf, e_recv, e_fldW, e_look, e_fldK, e_fldO, e_isIns, e_isIns_int, e_isIns_bl, e_isIns_str, e_isIns_non, e_isIns_tup, e_isIns_lst, e_asBool, e_negBool, e_addI, e_addW, e_subI, e_ltI, e_leI, e_gtI, e_geI, e_mulW, e_modI, e_fdivI, e_powI, e_pow9, e_pow18, e_pow20, e_lenT, e_lenL, e_intI, e_intB, e_absW, e_tupleL, e_tupleT, e_itemsL, e_itemsT, e_ixL, e_ixT, e_allW, e_anyW, e_sumW, e_rsK, e_rsS, e_tryA, e_tryK_exc, e_tryK_next, e_tryK_ret, e_goneK_next, e_goneK_ret, e_try1, e_try1K_exc, e_try1K_next, e_try1K_ret, e_stopX_next, e_stopX_ret, e_clr_nil, e_clr_v, e_clr_no, e_clr_acc, e_own_xcp, e_xfF, e_xfK, List.getElem?_cons_zero, List.getElem?_cons_succ, List.getElem?_nil, List.set_cons_zero, List.set_cons_succ, List.map_cons, List.map_nil, List.length_cons, List.length_nil, List.cons_append, List.nil_append, List.append_nil, List.replicate, List.filterMap_cons, List.filterMap_nil, Option.map_some, Option.map_none, Option.some_or, Option.none_or, Option.bind_some, Option.bind_none, Nat.add_zero, Nat.zero_add, Nat.reduceAdd, Nat.reduceSub, Nat.reduceLT, Nat.reduceLeDiff, Nat.reduceMul, Nat.sub_zero, Nat.sub_self, if_true, if_false, reduceIte, decide_true, decide_false, Bool.not_true, Bool.not_false, Bool.true_and, Bool.and_true, Bool.false_and, Bool.and_false, Bool.true_or, Bool.or_true, Bool.false_or, Bool.or_false, and_true, true_and, and_false, false_and, or_true, true_or, or_false, false_or, not_true, not_false_iff, reduceCtorEq, eq_self, ne_eq, Bool.false_eq_true, Bool.true_eq_false, List.all_cons, List.all_nil, List.any_cons, List.any_nil, List.contains_cons, List.contains_nil, id_eq, startS, startN, sel, toN, toT, tsNil, tsCons, putX, wipeS, asLen, allW, anyW, sumW, asBools, asInts, max2W, min2W, bbT, isiW, tyN, String.reduceEq, String.reduceBEq, String.reduceNe, eqD_int, Bool.false_xor, Bool.true_xor, Bool.xor_false, Bool.xor_true, Int.reduceEq, Int.reduceLT, Int.reduceLE, Int.reduceAdd, Int.reduceSub, Int.reduceMul, Int.reduceNeg, Int.reducePow, Int.reduceToNat, Int.cast_ofNat_Int, Int.toNat_zero, Int.toNat_one, Int.toNat_natCast, decide_eq_true_eq, atI_lit, cutW_fromL, cutW_toL, cutW_midL, List.drop, List.take, beq_self_eq_true, elim_ite, bind_ite', ofStr_eq, ofStr_beq, zipW, sL, sLt, hf, e, h1]
      | false =>
        have hk2 : k < fs.length := by
          by_cases z : k < fs.length
          · exact z
          · have : k = fs.length := by omega
            subst this
            simp [fits, rch] at e
        refine ⟨r, ?_, fun _ => ?_⟩
        · rw [rn]
          simp only [e_elim_elim, e_elim_bind, e_bind_elim, e_bind_bind, e_elim_run, e_bind_run, e_kE, e_kB, e_kR, e_elim_pure, e_elim_throw, e_elim_bad, e_ofO_some, e_ofO_none, e_Mpure, e_Mbind, e_pure_bind, e_throw_bind, e_bad_bind, e_pure_run, e_throw_run, e_bad_run, e_exN, e_sq, e_sqK_next, e_sqK_ret, e_sqK_exc, e_sqK_brk, e_sqK_cont, e_nx, e_brkS, e_contS, e_rtN, e_retK, e_rtS, e_dropK, e_drp, e_ifS, e_ifK, e_nextO, e_nextN, e_asg, e_asgK, e_asgX, e_asgXK, e_asgF, e_asgFK, e_setK, e_binK1, e_binK2, e_bin, e_augI, e_forL_nil, e_forL_cons, e_forB, e_forK_next, e_forK_cont, e_forK_brk, e_forK_ret, e_forK_exc, e_forSK, e_forS, e_itemsK, e_itS, e_rng1N, e_rng1L, e_rng1, e_rng2, e_rng2K, e_rng2J, e_zipK, e_zipL, e_zipT, e_itZip, e_enumK, e_itEnum, e_accOf, e_appK2, e_appK, e_appS, e_extK2, e_extK, e_extS, e_objK, e_stK2, e_stK, e_stO, e_gv, e_gb, e_gvK, e_gbK, e_gbA, e_cw, e_un1K, e_un1, e_unFK, e_unF, e_un1MK, e_un1M, e_binMK2, e_binMK1, e_binM, e_eqDF, e_eqF_not, e_eqF_ins, e_lenF_ins, e_lenF_not, e_noX_pure, e_asBK, e_tst, e_truK, e_tru, e_notK, e_notT, e_andK, e_orK, e_andT, e_orT, e_notVK, e_notV, e_andVK, e_orVK, e_andV, e_orV, e_ifEK, e_ifE, e_isN, e_isNK_non, e_isNK_int, e_isNK_tup, e_isNK_lst, e_isNK_str, e_isNK_bl, e_isNK_ins, e_negK, e_neg1, e_chn, e_chnK1, e_chnK2, e_chnK3, e_aNil, e_consK2, e_consK, e_aCons, e_starK2, e_starK1, e_aStar, e_tupK, e_lstK1, e_dTup, e_dLst, e_lstK, e_lstF, e_frzF, e_frz, e_frzO, e_frzOv, e_frzOn, e_xNil, e_xK2, e_xVK, e_xFK, e_xV, e_xF, e_partK, e_pNone, e_pSome, e_slTK3, e_slTK2, e_slTK1, e_slT, e_slLK3, e_slLK3r, e_slLK2, e_slLK1, e_slL, e_revK, e_revL, e_compK, e_compE, e_compL_nil, e_compL_cons, e_cK1, e_cK2, e_cK3, e_cK4, e_own_no, e_own_none, e_own_v, e_own_acc, e_own_obj, e_yesT, e_callK2, e_callK1, e_callF, e_skK2, e_skK1, e_skK0, e_callSK, e_mthK3, e_mthK2, e_mthK1, e_methF, e_kwF, e_mkF, e_insK, e_insM, e_bindW, e_bindN, e_bindStar, e_badX, e_bodyM, e_bodyN, e_endF_ret, e_endF_next, e_endF_exc, e_endN_next, e_endN_exc, e_objOf, e_recv, e_fldW, e_look, e_fldK, e_fldO, e_isIns, e_isIns_int, e_isIns_bl, e_isIns_str, e_isIns_non, e_isIns_tup, e_isIns_lst, e_asBool, e_negBool, e_addI, e_addW, e_subI, e_ltI, e_leI, e_gtI, e_geI, e_mulW, e_modI, e_fdivI, e_powI, e_pow9, e_pow18, e_pow20, e_lenT, e_lenL, e_intI, e_intB, e_absW, e_tupleL, e_tupleT, e_itemsL, e_itemsT, e_ixL, e_ixT, e_allW, e_anyW, e_sumW, e_rsK, e_rsS, e_tryA, e_tryK_exc, e_tryK_next, e_tryK_ret, e_goneK_next, e_goneK_ret, e_try1, e_try1K_exc, e_try1K_next, e_try1K_ret, e_stopX_next, e_stopX_ret, e_clr_nil, e_clr_v, e_clr_no, e_clr_acc, e_own_xcp, e_xfF, e_xfK, List.getElem?_cons_zero, List.getElem?_cons_succ, List.getElem?_nil, List.set_cons_zero, List.set_cons_succ, List.map_cons, List.map_nil, List.length_cons, List.length_nil, List.cons_append, List.nil_append, List.append_nil, List.replicate, List.filterMap_cons, List.filterMap_nil, Option.map_some, Option.map_none, Option.some_or, Option.none_or, Option.bind_some, Option.bind_none, Nat.add_zero, Nat.zero_add, Nat.reduceAdd, Nat.reduceSub, Nat.reduceLT, Nat.reduceLeDiff, Nat.reduceMul, Nat.sub_zero, Nat.sub_self, if_true, if_false, reduceIte, decide_true, decide_false, Bool.not_true, Bool.not_false, Bool.true_and, Bool.and_true, Bool.false_and, Bool.and_false, Bool.true_or, Bool.or_true, Bool.false_or, Bool.or_false, and_true, true_and, and_false, false_and, or_true, true_or, or_false, false_or, not_true, not_false_iff, reduceCtorEq, eq_self, ne_eq, Bool.false_eq_true, Bool.true_eq_false, List.all_cons, List.all_nil, List.any_cons, List.any_nil, List.contains_cons, List.contains_nil, id_eq, startS, startN, sel, toN, toT, tsNil, tsCons, putX, wipeS, asLen, allW, anyW, sumW, asBools, asInts, max2W, min2W, bbT, isiW, tyN, String.reduceEq, String.reduceBEq, String.reduceNe, eqD_int, Bool.false_xor, Bool.true_xor, Bool.xor_false, Bool.xor_true, Int.reduceEq, Int.reduceLT, Int.reduceLE, Int.reduceAdd, Int.reduceSub, Int.reduceMul, Int.reduceNeg, Int.reducePow, Int.reduceToNat, Int.cast_ofNat_Int, Int.toNat_zero, Int.toNat_one, Int.toNat_natCast, decide_eq_true_eq, atI_lit, cutW_fromL, cutW_toL, cutW_midL, List.drop, List.take, beq_self_eq_true, elim_ite, bind_ite', ofStr_eq, ofStr_beq, zipW, sL, sLt, hf, e, h1]
        · obtain ⟨r', h3⟩ := h2 (by omega)
          exact ⟨r', by rw [frst_eq, if_pos ⟨hk2, e⟩]; exact h3⟩
  intro n k hk hn
  obtain ⟨r, h1, h2⟩ := all n k hk
  obtain ⟨r', h3⟩ := h2 hn
  exact ⟨r', by rw [h1, h3]⟩
theorem eqD_pairs (neg : Bool) (k : Int) : eqD neg (.lst [.tup [.str "none", .int k], .tup [.str "none", .int k]]) (.lst [.tup [.str "none", .int k], .tup [.str "none", .int k]]) = some (.bl (neg ^^ true)) := by
  have s : PyData.strOk "none" = true := by decide +kernel
  rw [eqD_ok (by simp [okW, s]) (by simp [okW, s])]
  simp [eqW, eqWs]
theorem right_ok (fs : List Fm) (l : Int) (ok : LadOk fs l) (k d : Int) (fw : Bool) : f_law_is_right [ladW fs l, .tup [.tup (fs.map fW), .int l], .int k, .int d, .bl fw] [] = pure (.bl true) := by
  have hl : fs.length ≤ 2 := by
    match fs, ok with
    | [], _ => simp
    | [_], _ => simp
    | [_, _], _ => simp
  by_cases h : k < 0 ∨ (fs.length : Int) < k
  · have h1 := told_bad fs l k d fw true h
    have h2 := told_bad fs l k d fw false h
    by_cases h0 : 0 ≤ k
    · have n : ¬ k < ((fs.map fW).length : Int) + 1 := by rw [List.length_map]; omega
      simp only [f_law_is_right, g_law_is_right, e_elim_elim, e_elim_bind, e_bind_elim, e_bind_bind, e_elim_run, e_bind_run, e_kE, e_kB, e_kR, e_elim_pure, e_elim_throw, e_elim_bad, e_ofO_some, e_ofO_none, e_Mpure, e_Mbind, e_pure_bind, e_throw_bind, e_bad_bind, e_pure_run, e_throw_run, e_bad_run, e_exN, e_sq, e_sqK_next, e_sqK_ret, e_sqK_exc, e_sqK_brk, e_sqK_cont, e_nx, e_brkS, e_contS, e_rtN, e_retK, e_rtS, e_dropK, e_drp, e_ifS, e_ifK, e_nextO, e_nextN, e_asg, e_asgK, e_asgX, e_asgXK, e_asgF, e_asgFK, e_setK, e_binK1, e_binK2, e_bin, e_augI, e_forL_nil, e_forL_cons, e_forB, e_forK_next, e_forK_cont, e_forK_brk, e_forK_ret, e_forK_exc, e_forSK, e_forS, e_itemsK, e_itS, e_rng1N, e_rng1L, e_rng1, e_rng2, e_rng2K, e_rng2J, e_zipK, e_zipL, e_zipT, e_itZip, e_enumK, e_itEnum, e_accOf, e_appK2, e_appK, e_appS, e_extK2, e_extK, e_extS, e_objK, e_stK2, e_stK, e_stO, e_gv, e_gb, e_gvK, e_gbK, e_gbA, e_cw, e_un1K, e_un1, e_unFK, e_unF, e_un1MK, e_un1M, e_binMK2, e_binMK1, e_binM, e_eqDF, e_eqF_not, e_eqF_ins, e_lenF_ins, e_lenF_not, e_noX_pure, e_asBK, e_tst, e_truK, e_tru, e_notK, e_notT, e_andK, e_orK, e_andT, e_orT, e_notVK, e_notV, e_andVK, e_orVK, e_andV, e_orV, e_ifEK, e_ifE, e_isN, e_isNK_non, e_isNK_int, e_isNK_tup, e_isNK_lst, e_isNK_str, e_isNK_bl, e_isNK_ins, e_negK, e_neg1, e_chn, e_chnK1, e_chnK2, e_chnK3, e_aNil, e_consK2, e_consK, e_aCons, e_starK2, e_starK1, e_aStar, e_tupK, e_lstK1, e_dTup, e_dLst, e_lstK, e_lstF, e_frzF, e_frz, e_frzO, e_frzOv, e_frzOn, e_xNil, e_xK2, e_xVK, e_xFK, e_xV, e_xF, e_partK, e_pNone, e_pSome, e_slTK3, e_slTK2, e_slTK1, e_slT, e_slLK3, e_slLK3r, e_slLK2, e_slLK1, e_slL, e_revK, e_revL, e_compK, e_compE, e_compL_nil, e_compL_cons, e_cK1, e_cK2, e_cK3, e_cK4, e_own_no, e_own_none, e_own_v, e_own_acc, e_own_obj, e_yesT, e_callK2, e_callK1, e_callF, e_skK2, e_skK1, e_skK0, e_callSK, e_mthK3, e_mthK2, e_mthK1, e_methF, e_kwF, e_mkF, e_insK, e_insM, e_bindW, e_bindN, e_bindStar, e_badX, e_bodyM, e_bodyN, e_endF_ret, e_endF_next, e_endF_exc, e_endN_next, e_endN_exc, e_objOf, e_recv, e_fldW, e_look, e_fldK, e_fldO, e_isIns, e_isIns_int, e_isIns_bl, e_isIns_str, e_isIns_non, e_isIns_tup, e_isIns_lst, e_asBool, e_negBool, e_addI, e_addW, e_subI, e_ltI, e_leI, e_gtI, e_geI, e_mulW, e_modI, e_fdivI, e_powI, e_pow9, e_pow18, e_pow20, e_lenT, e_lenL, e_intI, e_intB, e_absW, e_tupleL, e_tupleT, e_itemsL, e_itemsT, e_ixL, e_ixT, e_allW, e_anyW, e_sumW, e_rsK, e_rsS, e_tryA, e_tryK_exc, e_tryK_next, e_tryK_ret, e_goneK_next, e_goneK_ret, e_try1, e_try1K_exc, e_try1K_next, e_try1K_ret, e_stopX_next, e_stopX_ret, e_clr_nil, e_clr_v, e_clr_no, e_clr_acc, e_own_xcp, e_xfF, e_xfK, List.getElem?_cons_zero, List.getElem?_cons_succ, List.getElem?_nil, List.set_cons_zero, List.set_cons_succ, List.map_cons, List.map_nil, List.length_cons, List.length_nil, List.cons_append, List.nil_append, List.append_nil, List.replicate, List.filterMap_cons, List.filterMap_nil, Option.map_some, Option.map_none, Option.some_or, Option.none_or, Option.bind_some, Option.bind_none, Nat.add_zero, Nat.zero_add, Nat.reduceAdd, Nat.reduceSub, Nat.reduceLT, Nat.reduceLeDiff, Nat.reduceMul, Nat.sub_zero, Nat.sub_self, if_true, if_false, reduceIte, decide_true, decide_false, Bool.not_true, Bool.not_false, Bool.true_and, Bool.and_true, Bool.false_and, Bool.and_false, Bool.true_or, Bool.or_true, Bool.false_or, Bool.or_false, and_true, true_and, and_false, false_and, or_true, true_or, or_false, false_or, not_true, not_false_iff, reduceCtorEq, eq_self, ne_eq, Bool.false_eq_true, Bool.true_eq_false, List.all_cons, List.all_nil, List.any_cons, List.any_nil, List.contains_cons, List.contains_nil, id_eq, startS, startN, sel, toN, toT, tsNil, tsCons, putX, wipeS, asLen, allW, anyW, sumW, asBools, asInts, max2W, min2W, bbT, isiW, tyN, String.reduceEq, String.reduceBEq, String.reduceNe, eqD_int, Bool.false_xor, Bool.true_xor, Bool.xor_false, Bool.xor_true, Int.reduceEq, Int.reduceLT, Int.reduceLE, Int.reduceAdd, Int.reduceSub, Int.reduceMul, Int.reduceNeg, Int.reducePow, Int.reduceToNat, Int.cast_ofNat_Int, Int.toNat_zero, Int.toNat_one, Int.toNat_natCast, decide_eq_true_eq, atI_lit, cutW_fromL, cutW_toL, cutW_midL, List.drop, List.take, beq_self_eq_true, elim_ite, bind_ite', ofStr_eq, ofStr_beq, zipW, sL, sLt, h0, n, h1, h2, eqD_pairs]
    · simp only [f_law_is_right, g_law_is_right, e_elim_elim, e_elim_bind, e_bind_elim, e_bind_bind, e_elim_run, e_bind_run, e_kE, e_kB, e_kR, e_elim_pure, e_elim_throw, e_elim_bad, e_ofO_some, e_ofO_none, e_Mpure, e_Mbind, e_pure_bind, e_throw_bind, e_bad_bind, e_pure_run, e_throw_run, e_bad_run, e_exN, e_sq, e_sqK_next, e_sqK_ret, e_sqK_exc, e_sqK_brk, e_sqK_cont, e_nx, e_brkS, e_contS, e_rtN, e_retK, e_rtS, e_dropK, e_drp, e_ifS, e_ifK, e_nextO, e_nextN, e_asg, e_asgK, e_asgX, e_asgXK, e_asgF, e_asgFK, e_setK, e_binK1, e_binK2, e_bin, e_augI, e_forL_nil, e_forL_cons, e_forB, e_forK_next, e_forK_cont, e_forK_brk, e_forK_ret, e_forK_exc, e_forSK, e_forS, e_itemsK, e_itS, e_rng1N, e_rng1L, e_rng1, e_rng2, e_rng2K, e_rng2J, e_zipK, e_zipL, e_zipT, e_itZip, e_enumK, e_itEnum, e_accOf, e_appK2, e_appK, e_appS, e_extK2, e_extK, e_extS, e_objK, e_stK2, e_stK, e_stO, e_gv, e_gb, e_gvK, e_gbK, e_gbA, e_cw, e_un1K, e_un1, e_unFK, e_unF, e_un1MK, e_un1M, e_binMK2, e_binMK1, e_binM, e_eqDF, e_eqF_not, e_eqF_ins, e_lenF_ins, e_lenF_not, e_noX_pure, e_asBK, e_tst, e_truK, e_tru, e_notK, e_notT, e_andK, e_orK, e_andT, e_orT, e_notVK, e_notV, e_andVK, e_orVK, e_andV, e_orV, e_ifEK, e_ifE, e_isN, e_isNK_non, e_isNK_int, e_isNK_tup, e_isNK_lst, e_isNK_str, e_isNK_bl, e_isNK_ins, e_negK, e_neg1, e_chn, e_chnK1, e_chnK2, e_chnK3, e_aNil, e_consK2, e_consK, e_aCons, e_starK2, e_starK1, e_aStar, e_tupK, e_lstK1, e_dTup, e_dLst, e_lstK, e_lstF, e_frzF, e_frz, e_frzO, e_frzOv, e_frzOn, e_xNil, e_xK2, e_xVK, e_xFK, e_xV, e_xF, e_partK, e_pNone, e_pSome, e_slTK3, e_slTK2, e_slTK1, e_slT, e_slLK3, e_slLK3r, e_slLK2, e_slLK1, e_slL, e_revK, e_revL, e_compK, e_compE, e_compL_nil, e_compL_cons, e_cK1, e_cK2, e_cK3, e_cK4, e_own_no, e_own_none, e_own_v, e_own_acc, e_own_obj, e_yesT, e_callK2, e_callK1, e_callF, e_skK2, e_skK1, e_skK0, e_callSK, e_mthK3, e_mthK2, e_mthK1, e_methF, e_kwF, e_mkF, e_insK, e_insM, e_bindW, e_bindN, e_bindStar, e_badX, e_bodyM, e_bodyN, e_endF_ret, e_endF_next, e_endF_exc, e_endN_next, e_endN_exc, e_objOf, e_recv, e_fldW, e_look, e_fldK, e_fldO, e_isIns, e_isIns_int, e_isIns_bl, e_isIns_str, e_isIns_non, e_isIns_tup, e_isIns_lst, e_asBool, e_negBool, e_addI, e_addW, e_subI, e_ltI, e_leI, e_gtI, e_geI, e_mulW, e_modI, e_fdivI, e_powI, e_pow9, e_pow18, e_pow20, e_lenT, e_lenL, e_intI, e_intB, e_absW, e_tupleL, e_tupleT, e_itemsL, e_itemsT, e_ixL, e_ixT, e_allW, e_anyW, e_sumW, e_rsK, e_rsS, e_tryA, e_tryK_exc, e_tryK_next, e_tryK_ret, e_goneK_next, e_goneK_ret, e_try1, e_try1K_exc, e_try1K_next, e_try1K_ret, e_stopX_next, e_stopX_ret, e_clr_nil, e_clr_v, e_clr_no, e_clr_acc, e_own_xcp, e_xfF, e_xfK, List.getElem?_cons_zero, List.getElem?_cons_succ, List.getElem?_nil, List.set_cons_zero, List.set_cons_succ, List.map_cons, List.map_nil, List.length_cons, List.length_nil, List.cons_append, List.nil_append, List.append_nil, List.replicate, List.filterMap_cons, List.filterMap_nil, Option.map_some, Option.map_none, Option.some_or, Option.none_or, Option.bind_some, Option.bind_none, Nat.add_zero, Nat.zero_add, Nat.reduceAdd, Nat.reduceSub, Nat.reduceLT, Nat.reduceLeDiff, Nat.reduceMul, Nat.sub_zero, Nat.sub_self, if_true, if_false, reduceIte, decide_true, decide_false, Bool.not_true, Bool.not_false, Bool.true_and, Bool.and_true, Bool.false_and, Bool.and_false, Bool.true_or, Bool.or_true, Bool.false_or, Bool.or_false, and_true, true_and, and_false, false_and, or_true, true_or, or_false, false_or, not_true, not_false_iff, reduceCtorEq, eq_self, ne_eq, Bool.false_eq_true, Bool.true_eq_false, List.all_cons, List.all_nil, List.any_cons, List.any_nil, List.contains_cons, List.contains_nil, id_eq, startS, startN, sel, toN, toT, tsNil, tsCons, putX, wipeS, asLen, allW, anyW, sumW, asBools, asInts, max2W, min2W, bbT, isiW, tyN, String.reduceEq, String.reduceBEq, String.reduceNe, eqD_int, Bool.false_xor, Bool.true_xor, Bool.xor_false, Bool.xor_true, Int.reduceEq, Int.reduceLT, Int.reduceLE, Int.reduceAdd, Int.reduceSub, Int.reduceMul, Int.reduceNeg, Int.reducePow, Int.reduceToNat, Int.cast_ofNat_Int, Int.toNat_zero, Int.toNat_one, Int.toNat_natCast, decide_eq_true_eq, atI_lit, cutW_fromL, cutW_toL, cutW_midL, List.drop, List.take, beq_self_eq_true, elim_ite, bind_ite', ofStr_eq, ofStr_beq, zipW, sL, sLt, h0, h1, h2, eqD_pairs]
  · obtain ⟨m, rfl⟩ : ∃ m : Nat, k = m := ⟨k.toNat, by omega⟩
    have hm : m ≤ fs.length := by omega
    have h0 : (0 : Int) ≤ m := by omega
    have n : (m : Int) < ((fs.map fW).length : Int) + 1 := by rw [List.length_map]; omega
    have h1 := told_ok fs l m d fw true hm
    have h2 := told_ok fs l m d fw false hm
    have h3 := far_ok fs l m d fw hm
    simp only [if_true, Bool.false_eq_true, if_false] at h1 h2
    have e1 : (((fs.map fW).length : Int) + 1 - m).toNat = fs.length + 1 - m := by rw [List.length_map]; omega
    obtain ⟨r, h4⟩ := hd_ok fs l d fw (x0 := .v (ladW fs l)) (x2 := .v (.int m)) (x5 := .v (.int (((fs.map fW).length : Int) + 1))) (x6 := .no) (x7 := .no) (x8 := .v (.bl (fits fs m fw d))) (x9 := .no) (x10 := .no) rfl rfl rfl (fs.length + 1 - m) m (by omega) (by omega)
    obtain ⟨x, h5, h6⟩ := repr_small (frst fs fw d m) (by have := (frst_spec fs fw d m hm).2.1; omega)
    have f1 : fits62 (m : Int) = true := by simp only [fits62, decide_eq_true_eq]; omega
    have f2 : fits62 (((fs.map fW).length : Int) + 1) = true := by rw [List.length_map]; simp only [fits62, decide_eq_true_eq]; omega
    have f3 : fs.length + 1 - m ≤ sizeLine := by rw [sizeLine_eq]; omega
    have s1 : ∀ b : Bool, PyData.strOk (if b = true then "True" else "False") = true := by intro b; cases b <;> decide +kernel
    have s2 := eqD_str (neg := true) (s1 (fits fs m fw d)) (s1 (fits fs m fw d))
    have s3 := eqD_str (neg := false) h6 h6
    simp only [f_law_is_right, g_law_is_right, e_elim_elim, e_elim_bind, e_bind_elim, e_bind_bind, e_elim_run, e_bind_run, e_kE, e_kB, e_kR, e_elim_pure, e_elim_throw, e_elim_bad, e_ofO_some, e_ofO_none, e_Mpure, e_Mbind, e_pure_bind, e_throw_bind, e_bad_bind, e_pure_run, e_throw_run, e_bad_run, e_exN, e_sq, e_sqK_next, e_sqK_ret, e_sqK_exc, e_sqK_brk, e_sqK_cont, e_nx, e_brkS, e_contS, e_rtN, e_retK, e_rtS, e_dropK, e_drp, e_ifS, e_ifK, e_nextO, e_nextN, e_asg, e_asgK, e_asgX, e_asgXK, e_asgF, e_asgFK, e_setK, e_binK1, e_binK2, e_bin, e_augI, e_forL_nil, e_forL_cons, e_forB, e_forK_next, e_forK_cont, e_forK_brk, e_forK_ret, e_forK_exc, e_forSK, e_forS, e_itemsK, e_itS, e_rng1N, e_rng1L, e_rng1, e_rng2, e_rng2K, e_rng2J, e_zipK, e_zipL, e_zipT, e_itZip, e_enumK, e_itEnum, e_accOf, e_appK2, e_appK, e_appS, e_extK2, e_extK, e_extS, e_objK, e_stK2, e_stK, e_stO, e_gv, e_gb, e_gvK, e_gbK, e_gbA, e_cw, e_un1K, e_un1, e_unFK, e_unF, e_un1MK, e_un1M, e_binMK2, e_binMK1, e_binM, e_eqDF, e_eqF_not, e_eqF_ins, e_lenF_ins, e_lenF_not, e_noX_pure, e_asBK, e_tst, e_truK, e_tru, e_notK, e_notT, e_andK, e_orK, e_andT, e_orT, e_notVK, e_notV, e_andVK, e_orVK, e_andV, e_orV, e_ifEK, e_ifE, e_isN, e_isNK_non, e_isNK_int, e_isNK_tup, e_isNK_lst, e_isNK_str, e_isNK_bl, e_isNK_ins, e_negK, e_neg1, e_chn, e_chnK1, e_chnK2, e_chnK3, e_aNil, e_consK2, e_consK, e_aCons, e_starK2, e_starK1, e_aStar, e_tupK, e_lstK1, e_dTup, e_dLst, e_lstK, e_lstF, e_frzF, e_frz, e_frzO, e_frzOv, e_frzOn, e_xNil, e_xK2, e_xVK, e_xFK, e_xV, e_xF, e_partK, e_pNone, e_pSome, e_slTK3, e_slTK2, e_slTK1, e_slT, e_slLK3, e_slLK3r, e_slLK2, e_slLK1, e_slL, e_revK, e_revL, e_compK, e_compE, e_compL_nil, e_compL_cons, e_cK1, e_cK2, e_cK3, e_cK4, e_own_no, e_own_none, e_own_v, e_own_acc, e_own_obj, e_yesT, e_callK2, e_callK1, e_callF, e_skK2, e_skK1, e_skK0, e_callSK, e_mthK3, e_mthK2, e_mthK1, e_methF, e_kwF, e_mkF, e_insK, e_insM, e_bindW, e_bindN, e_bindStar, e_badX, e_bodyM, e_bodyN, e_endF_ret, e_endF_next, e_endF_exc, e_endN_next, e_endN_exc, e_objOf, e_recv, e_fldW, e_look, e_fldK, e_fldO, e_isIns, e_isIns_int, e_isIns_bl, e_isIns_str, e_isIns_non, e_isIns_tup, e_isIns_lst, e_asBool, e_negBool, e_addI, e_addW, e_subI, e_ltI, e_leI, e_gtI, e_geI, e_mulW, e_modI, e_fdivI, e_powI, e_pow9, e_pow18, e_pow20, e_lenT, e_lenL, e_intI, e_intB, e_absW, e_tupleL, e_tupleT, e_itemsL, e_itemsT, e_ixL, e_ixT, e_allW, e_anyW, e_sumW, e_rsK, e_rsS, e_tryA, e_tryK_exc, e_tryK_next, e_tryK_ret, e_goneK_next, e_goneK_ret, e_try1, e_try1K_exc, e_try1K_next, e_try1K_ret, e_stopX_next, e_stopX_ret, e_clr_nil, e_clr_v, e_clr_no, e_clr_acc, e_own_xcp, e_xfF, e_xfK, List.getElem?_cons_zero, List.getElem?_cons_succ, List.getElem?_nil, List.set_cons_zero, List.set_cons_succ, List.map_cons, List.map_nil, List.length_cons, List.length_nil, List.cons_append, List.nil_append, List.append_nil, List.replicate, List.filterMap_cons, List.filterMap_nil, Option.map_some, Option.map_none, Option.some_or, Option.none_or, Option.bind_some, Option.bind_none, Nat.add_zero, Nat.zero_add, Nat.reduceAdd, Nat.reduceSub, Nat.reduceLT, Nat.reduceLeDiff, Nat.reduceMul, Nat.sub_zero, Nat.sub_self, if_true, if_false, reduceIte, decide_true, decide_false, Bool.not_true, Bool.not_false, Bool.true_and, Bool.and_true, Bool.false_and, Bool.and_false, Bool.true_or, Bool.or_true, Bool.false_or, Bool.or_false, and_true, true_and, and_false, false_and, or_true, true_or, or_false, false_or, not_true, not_false_iff, reduceCtorEq, eq_self, ne_eq, Bool.false_eq_true, Bool.true_eq_false, List.all_cons, List.all_nil, List.any_cons, List.any_nil, List.contains_cons, List.contains_nil, id_eq, startS, startN, sel, toN, toT, tsNil, tsCons, putX, wipeS, asLen, allW, anyW, sumW, asBools, asInts, max2W, min2W, bbT, isiW, tyN, String.reduceEq, String.reduceBEq, String.reduceNe, eqD_int, Bool.false_xor, Bool.true_xor, Bool.xor_false, Bool.xor_true, Int.reduceEq, Int.reduceLT, Int.reduceLE, Int.reduceAdd, Int.reduceSub, Int.reduceMul, Int.reduceNeg, Int.reducePow, Int.reduceToNat, Int.cast_ofNat_Int, Int.toNat_zero, Int.toNat_one, Int.toNat_natCast, decide_eq_true_eq, atI_lit, cutW_fromL, cutW_toL, cutW_midL, List.drop, List.take, beq_self_eq_true, elim_ite, bind_ite', ofStr_eq, ofStr_beq, zipW, sL, sLt, h0, n, h1, h2, h3, Bool.not_not, repr_bl, s2, f1, f2, f3, h4, e1, h5, s3]
theorem l5_ok (fs : List Fm) (l : Int) (ok : LadOk fs l) (d : Int) (fw : Bool) {x0 x1 x2 x5 s6 x9 x10 : Sl} : True := trivial
section
variable {fs : List Fm} {l : Int} (ok : LadOk fs l) {x0 x1 x2 x5 : Sl}
include ok in
theorem l4_ok (d : Int) (fw : Bool) (s6 : Sl) : ∃ s6', g_law_l4 [x0, x1, x2, .v (.tup [.tup (fs.map fW), .int l]), .v (ladW fs l), x5, s6, .v (.int d), .v (.bl fw)] = pure (.next [x0, x1, x2, .v (.tup [.tup (fs.map fW), .int l]), .v (ladW fs l), x5, s6', .v (.int d), .v (.bl fw)]) := by
  have h := fun k => right_ok fs l ok k d fw
  have h1 := first0_ok fs l fw d
  have h2 := first_lf fs l 0 fw d (Nat.zero_le _)
  simp only [Int.natCast_zero] at h2
  refine ⟨.v (.int (-1)), ?_⟩
  simp only [g_law_l4, g_law_l5, e_elim_elim, e_elim_bind, e_bind_elim, e_bind_bind, e_elim_run, e_bind_run, e_kE, e_kB, e_kR, e_elim_pure, e_elim_throw, e_elim_bad, e_ofO_some, e_ofO_none, e_Mpure, e_Mbind, e_pure_bind, e_throw_bind, e_bad_bind, e_pure_run, e_throw_run, e_bad_run, e_exN, e_sq, e_sqK_next, e_sqK_ret, e_sqK_exc, e_sqK_brk, e_sqK_cont, e_nx, e_brkS, e_contS, e_rtN, e_retK, e_rtS, e_dropK, e_drp, e_ifS, e_ifK, e_nextO, e_nextN, e_asg, e_asgK, e_asgX, e_asgXK, e_asgF, e_asgFK, e_setK, e_binK1, e_binK2, e_bin, e_augI, e_forL_nil, e_forL_cons, e_forB, e_forK_next, e_forK_cont, e_forK_brk, e_forK_ret, e_forK_exc, e_forSK, e_forS, e_itemsK, e_itS, e_rng1N, e_rng1L, e_rng1, e_rng2, e_rng2K, e_rng2J, e_zipK, e_zipL, e_zipT, e_itZip, e_enumK, e_itEnum, e_accOf, e_appK2, e_appK, e_appS, e_extK2, e_extK, e_extS, e_objK, e_stK2, e_stK, e_stO, e_gv, e_gb, e_gvK, e_gbK, e_gbA, e_cw, e_un1K, e_un1, e_unFK, e_unF, e_un1MK, e_un1M, e_binMK2, e_binMK1, e_binM, e_eqDF, e_eqF_not, e_eqF_ins, e_lenF_ins, e_lenF_not, e_noX_pure, e_asBK, e_tst, e_truK, e_tru, e_notK, e_notT, e_andK, e_orK, e_andT, e_orT, e_notVK, e_notV, e_andVK, e_orVK, e_andV, e_orV, e_ifEK, e_ifE, e_isN, e_isNK_non, e_isNK_int, e_isNK_tup, e_isNK_lst, e_isNK_str, e_isNK_bl, e_isNK_ins, e_negK, e_neg1, e_chn, e_chnK1, e_chnK2, e_chnK3, e_aNil, e_consK2, e_consK, e_aCons, e_starK2, e_starK1, e_aStar, e_tupK, e_lstK1, e_dTup, e_dLst, e_lstK, e_lstF, e_frzF, e_frz, e_frzO, e_frzOv, e_frzOn, e_xNil, e_xK2, e_xVK, e_xFK, e_xV, e_xF, e_partK, e_pNone, e_pSome, e_slTK3, e_slTK2, e_slTK1, e_slT, e_slLK3, e_slLK3r, e_slLK2, e_slLK1, e_slL, e_revK, e_revL, e_compK, e_compE, e_compL_nil, e_compL_cons, e_cK1, e_cK2, e_cK3, e_cK4, e_own_no, e_own_none, e_own_v, e_own_acc, e_own_obj, e_yesT, e_callK2, e_callK1, e_callF, e_skK2, e_skK1, e_skK0, e_callSK, e_mthK3, e_mthK2, e_mthK1, e_methF, e_kwF, e_mkF, e_insK, e_insM, e_bindW, e_bindN, e_bindStar, e_badX, e_bodyM, e_bodyN, e_endF_ret, e_endF_next, e_endF_exc, e_endN_next, e_endN_exc, e_objOf, e_recv, e_fldW, e_look, e_fldK, e_fldO, e_isIns, e_isIns_int, e_isIns_bl, e_isIns_str, e_isIns_non, e_isIns_tup, e_isIns_lst, e_asBool, e_negBool, e_addI, e_addW, e_subI, e_ltI, e_leI, e_gtI, e_geI, e_mulW, e_modI, e_fdivI, e_powI, e_pow9, e_pow18, e_pow20, e_lenT, e_lenL, e_intI, e_intB, e_absW, e_tupleL, e_tupleT, e_itemsL, e_itemsT, e_ixL, e_ixT, e_allW, e_anyW, e_sumW, e_rsK, e_rsS, e_tryA, e_tryK_exc, e_tryK_next, e_tryK_ret, e_goneK_next, e_goneK_ret, e_try1, e_try1K_exc, e_try1K_next, e_try1K_ret, e_stopX_next, e_stopX_ret, e_clr_nil, e_clr_v, e_clr_no, e_clr_acc, e_own_xcp, e_xfF, e_xfK, List.getElem?_cons_zero, List.getElem?_cons_succ, List.getElem?_nil, List.set_cons_zero, List.set_cons_succ, List.map_cons, List.map_nil, List.length_cons, List.length_nil, List.cons_append, List.nil_append, List.append_nil, List.replicate, List.filterMap_cons, List.filterMap_nil, Option.map_some, Option.map_none, Option.some_or, Option.none_or, Option.bind_some, Option.bind_none, Nat.add_zero, Nat.zero_add, Nat.reduceAdd, Nat.reduceSub, Nat.reduceLT, Nat.reduceLeDiff, Nat.reduceMul, Nat.sub_zero, Nat.sub_self, if_true, if_false, reduceIte, decide_true, decide_false, Bool.not_true, Bool.not_false, Bool.true_and, Bool.and_true, Bool.false_and, Bool.and_false, Bool.true_or, Bool.or_true, Bool.false_or, Bool.or_false, and_true, true_and, and_false, false_and, or_true, true_or, or_false, false_or, not_true, not_false_iff, reduceCtorEq, eq_self, ne_eq, Bool.false_eq_true, Bool.true_eq_false, List.all_cons, List.all_nil, List.any_cons, List.any_nil, List.contains_cons, List.contains_nil, id_eq, startS, startN, sel, toN, toT, tsNil, tsCons, putX, wipeS, asLen, allW, anyW, sumW, asBools, asInts, max2W, min2W, bbT, isiW, tyN, String.reduceEq, String.reduceBEq, String.reduceNe, eqD_int, Bool.false_xor, Bool.true_xor, Bool.xor_false, Bool.xor_true, Int.reduceEq, Int.reduceLT, Int.reduceLE, Int.reduceAdd, Int.reduceSub, Int.reduceMul, Int.reduceNeg, Int.reducePow, Int.reduceToNat, Int.cast_ofNat_Int, Int.toNat_zero, Int.toNat_one, Int.toNat_natCast, decide_eq_true_eq, atI_lit, cutW_fromL, cutW_toL, cutW_midL, List.drop, List.take, beq_self_eq_true, elim_ite, bind_ite', ofStr_eq, ofStr_beq, zipW, sL, sLt, h, lad_recv, h1, h2]
include ok in
theorem l3_ok : ∀ (ms : List Int) (s6 s7 s8 : Sl), ∃ s6' s7' s8', forL (toN 7) g_law_l3 (ms.map .int) [x0, x1, x2, .v (.tup [.tup (fs.map fW), .int l]), .v (ladW fs l), x5, s6, s7, s8] = pure (.next [x0, x1, x2, .v (.tup [.tup (fs.map fW), .int l]), .v (ladW fs l), x5, s6', s7', s8']) := by
  intro ms
  induction ms with
  | nil => exact fun s6 s7 s8 => ⟨s6, s7, s8, rfl⟩
  | cons d ms ih =>
    intro s6 s7 s8
    obtain ⟨s6a, h1⟩ := l4_ok ok (x0 := x0) (x1 := x1) (x2 := x2) (x5 := x5) d true s6
    obtain ⟨s6b, h2⟩ := l4_ok ok (x0 := x0) (x1 := x1) (x2 := x2) (x5 := x5) d false s6a
    obtain ⟨a, b, c, h3⟩ := ih s6b (.v (.int d)) (.v (.bl false))
    refine ⟨a, b, c, ?_⟩
    simp only [List.map_cons, g_law_l3, e_elim_elim, e_elim_bind, e_bind_elim, e_bind_bind, e_elim_run, e_bind_run, e_kE, e_kB, e_kR, e_elim_pure, e_elim_throw, e_elim_bad, e_ofO_some, e_ofO_none, e_Mpure, e_Mbind, e_pure_bind, e_throw_bind, e_bad_bind, e_pure_run, e_throw_run, e_bad_run, e_exN, e_sq, e_sqK_next, e_sqK_ret, e_sqK_exc, e_sqK_brk, e_sqK_cont, e_nx, e_brkS, e_contS, e_rtN, e_retK, e_rtS, e_dropK, e_drp, e_ifS, e_ifK, e_nextO, e_nextN, e_asg, e_asgK, e_asgX, e_asgXK, e_asgF, e_asgFK, e_setK, e_binK1, e_binK2, e_bin, e_augI, e_forL_nil, e_forL_cons, e_forB, e_forK_next, e_forK_cont, e_forK_brk, e_forK_ret, e_forK_exc, e_forSK, e_forS, e_itemsK, e_itS, e_rng1N, e_rng1L, e_rng1, e_rng2, e_rng2K, e_rng2J, e_zipK, e_zipL, e_zipT, e_itZip, e_enumK, e_itEnum, e_accOf, e_appK2, e_appK, e_appS, e_extK2, e_extK, e_extS, e_objK, e_stK2, e_stK, e_stO, e_gv, e_gb, e_gvK, e_gbK, e_gbA, e_cw, e_un1K, e_un1, e_unFK, e_unF, e_un1MK, e_un1M, e_binMK2, e_binMK1, e_binM, e_eqDF, e_eqF_not, e_eqF_ins, e_lenF_ins, e_lenF_not, e_noX_pure, e_asBK, e_tst, e_truK, e_tru, e_notK, e_notT, e_andK, e_orK, e_andT, e_orT, e_notVK, e_notV, e_andVK, e_orVK, e_andV, e_orV, e_ifEK, e_ifE, e_isN, e_isNK_non, e_isNK_int, e_isNK_tup, e_isNK_lst, e_isNK_str, e_isNK_bl, e_isNK_ins, e_negK, e_neg1, e_chn, e_chnK1, e_chnK2, e_chnK3, e_aNil, e_consK2, e_consK, e_aCons, e_starK2, e_starK1, e_aStar, e_tupK, e_lstK1, e_dTup, e_dLst, e_lstK, e_lstF, e_frzF, e_frz, e_frzO, e_frzOv, e_frzOn, e_xNil, e_xK2, e_xVK, e_xFK, e_xV, e_xF, e_partK, e_pNone, e_pSome, e_slTK3, e_slTK2, e_slTK1, e_slT, e_slLK3, e_slLK3r, e_slLK2, e_slLK1, e_slL, e_revK, e_revL, e_compK, e_compE, e_compL_nil, e_compL_cons, e_cK1, e_cK2, e_cK3, e_cK4, e_own_no, e_own_none, e_own_v, e_own_acc, e_own_obj, e_yesT, e_callK2, e_callK1, e_callF, e_skK2, e_skK1, e_skK0, e_callSK, e_mthK3, e_mthK2, e_mthK1, e_methF, e_kwF, e_mkF, e_insK, e_insM, e_bindW, e_bindN, e_bindStar, e_badX, e_bodyM, e_bodyN, e_endF_ret, e_endF_next, e_endF_exc, e_endN_next, e_endN_exc, e_objOf, e_recv, e_fldW, e_look, e_fldK, e_fldO, e_isIns, e_isIns_int, e_isIns_bl, e_isIns_str, e_isIns_non, e_isIns_tup, e_isIns_lst, e_asBool, e_negBool, e_addI, e_addW, e_subI, e_ltI, e_leI, e_gtI, e_geI, e_mulW, e_modI, e_fdivI, e_powI, e_pow9, e_pow18, e_pow20, e_lenT, e_lenL, e_intI, e_intB, e_absW, e_tupleL, e_tupleT, e_itemsL, e_itemsT, e_ixL, e_ixT, e_allW, e_anyW, e_sumW, e_rsK, e_rsS, e_tryA, e_tryK_exc, e_tryK_next, e_tryK_ret, e_goneK_next, e_goneK_ret, e_try1, e_try1K_exc, e_try1K_next, e_try1K_ret, e_stopX_next, e_stopX_ret, e_clr_nil, e_clr_v, e_clr_no, e_clr_acc, e_own_xcp, e_xfF, e_xfK, List.getElem?_cons_zero, List.getElem?_cons_succ, List.getElem?_nil, List.set_cons_zero, List.set_cons_succ, List.map_cons, List.map_nil, List.length_cons, List.length_nil, List.cons_append, List.nil_append, List.append_nil, List.replicate, List.filterMap_cons, List.filterMap_nil, Option.map_some, Option.map_none, Option.some_or, Option.none_or, Option.bind_some, Option.bind_none, Nat.add_zero, Nat.zero_add, Nat.reduceAdd, Nat.reduceSub, Nat.reduceLT, Nat.reduceLeDiff, Nat.reduceMul, Nat.sub_zero, Nat.sub_self, if_true, if_false, reduceIte, decide_true, decide_false, Bool.not_true, Bool.not_false, Bool.true_and, Bool.and_true, Bool.false_and, Bool.and_false, Bool.true_or, Bool.or_true, Bool.false_or, Bool.or_false, and_true, true_and, and_false, false_and, or_true, true_or, or_false, false_or, not_true, not_false_iff, reduceCtorEq, eq_self, ne_eq, Bool.false_eq_true, Bool.true_eq_false, List.all_cons, List.all_nil, List.any_cons, List.any_nil, List.contains_cons, List.contains_nil, id_eq, startS, startN, sel, toN, toT, tsNil, tsCons, putX, wipeS, asLen, allW, anyW, sumW, asBools, asInts, max2W, min2W, bbT, isiW, tyN, String.reduceEq, String.reduceBEq, String.reduceNe, eqD_int, Bool.false_xor, Bool.true_xor, Bool.xor_false, Bool.xor_true, Int.reduceEq, Int.reduceLT, Int.reduceLE, Int.reduceAdd, Int.reduceSub, Int.reduceMul, Int.reduceNeg, Int.reducePow, Int.reduceToNat, Int.cast_ofNat_Int, Int.toNat_zero, Int.toNat_one, Int.toNat_natCast, decide_eq_true_eq, atI_lit, cutW_fromL, cutW_toL, cutW_midL, List.drop, List.take, beq_self_eq_true, elim_ite, bind_ite', ofStr_eq, ofStr_beq, zipW, sL, sLt, h1, h2, h3]
end
theorem spots_ok {x0 x1 x2 x3 x4 x7 x8 : Sl} : ∀ (fs : List Fm) (ns : List Int) (s6 : Sl), ns.length + 4 * fs.length ≤ 1000 → ∃ (ms : List Int) (s6' : Sl), forL (toN 6) g_law_l2 (fs.map fW) [x0, x1, x2, x3, x4, .acc (ns.map .int), s6, x7, x8] = pure (.next [x0, x1, x2, x3, x4, .acc (ms.map .int), s6', x7, x8]) := by
  intro fs
  induction fs with
  | nil => exact fun ns s6 _ => ⟨ns, s6, rfl⟩
  | cons f fs ih =>
    intro ns s6 h1
    obtain ⟨s, b, a⟩ := f
    obtain ⟨ms, s6', h4⟩ := ih (ns ++ [b, b + 1, a, a + 1]) (.v (fW (s, b, a))) (by simp at h1 ⊢; omega)
    refine ⟨ms, s6', ?_⟩
    have e : (ns ++ [b, b + 1, a, a + 1]).map W.int = ns.map W.int ++ [.int b, .int (b + 1), .int a, .int (a + 1)] := by simp
    have hz : (ns.map W.int).length + 4 ≤ sizeLine := sL _ (by simp at h1 ⊢; omega)
    rw [e] at h4
    simp only [fW] at h4
    simp only [g_law_l2, fW, e_elim_elim, e_elim_bind, e_bind_elim, e_bind_bind, e_elim_run, e_bind_run, e_kE, e_kB, e_kR, e_elim_pure, e_elim_throw, e_elim_bad, e_ofO_some, e_ofO_none, e_Mpure, e_Mbind, e_pure_bind, e_throw_bind, e_bad_bind, e_pure_run, e_throw_run, e_bad_run, e_exN, e_sq, e_sqK_next, e_sqK_ret, e_sqK_exc, e_sqK_brk, e_sqK_cont, e_nx, e_brkS, e_contS, e_rtN, e_retK, e_rtS, e_dropK, e_drp, e_ifS, e_ifK, e_nextO, e_nextN, e_asg, e_asgK, e_asgX, e_asgXK, e_asgF, e_asgFK, e_setK, e_binK1, e_binK2, e_bin, e_augI, e_forL_nil, e_forL_cons, e_forB, e_forK_next, e_forK_cont, e_forK_brk, e_forK_ret, e_forK_exc, e_forSK, e_forS, e_itemsK, e_itS, e_rng1N, e_rng1L, e_rng1, e_rng2, e_rng2K, e_rng2J, e_zipK, e_zipL, e_zipT, e_itZip, e_enumK, e_itEnum, e_accOf, e_appK2, e_appK, e_appS, e_extK2, e_extK, e_extS, e_objK, e_stK2, e_stK, e_stO, e_gv, e_gb, e_gvK, e_gbK, e_gbA, e_cw, e_un1K, e_un1, e_unFK, e_unF, e_un1MK, e_un1M, e_binMK2, e_binMK1, e_binM, e_eqDF, e_eqF_not, e_eqF_ins, e_lenF_ins, e_lenF_not, e_noX_pure, e_asBK, e_tst, e_truK, e_tru, e_notK, e_notT, e_andK, e_orK, e_andT, e_orT, e_notVK, e_notV, e_andVK, e_orVK, e_andV, e_orV, e_ifEK, e_ifE, e_isN, e_isNK_non, e_isNK_int, e_isNK_tup, e_isNK_lst, e_isNK_str, e_isNK_bl, e_isNK_ins, e_negK, e_neg1, e_chn, e_chnK1, e_chnK2, e_chnK3, e_aNil, e_consK2, e_consK, e_aCons, e_starK2, e_starK1, e_aStar, e_tupK, e_lstK1, e_dTup, e_dLst, e_lstK, e_lstF, e_frzF, e_frz, e_frzO, e_frzOv, e_frzOn, e_xNil, e_xK2, e_xVK, e_xFK, e_xV, e_xF, e_partK, e_pNone, e_pSome, e_slTK3, e_slTK2, e_slTK1, e_slT, e_slLK3, e_slLK3r, e_slLK2, e_slLK1, e_slL, e_revK, e_revL, e_compK, e_compE, e_compL_nil, e_compL_cons, e_cK1, e_cK2, e_cK3, e_cK4, e_own_no, e_own_none, e_own_v, e_own_acc, e_own_obj, e_yesT, e_callK2, e_callK1, e_callF, e_skK2, e_skK1, e_skK0, e_callSK, e_mthK3, e_mthK2, e_mthK1, e_methF, e_kwF, e_mkF, e_insK, e_insM, e_bindW, e_bindN, e_bindStar, e_badX, e_bodyM, e_bodyN, e_endF_ret, e_endF_next, e_endF_exc, e_endN_next, e_endN_exc, e_objOf, e_recv, e_fldW, e_look, e_fldK, e_fldO, e_isIns, e_isIns_int, e_isIns_bl, e_isIns_str, e_isIns_non, e_isIns_tup, e_isIns_lst, e_asBool, e_negBool, e_addI, e_addW, e_subI, e_ltI, e_leI, e_gtI, e_geI, e_mulW, e_modI, e_fdivI, e_powI, e_pow9, e_pow18, e_pow20, e_lenT, e_lenL, e_intI, e_intB, e_absW, e_tupleL, e_tupleT, e_itemsL, e_itemsT, e_ixL, e_ixT, e_allW, e_anyW, e_sumW, e_rsK, e_rsS, e_tryA, e_tryK_exc, e_tryK_next, e_tryK_ret, e_goneK_next, e_goneK_ret, e_try1, e_try1K_exc, e_try1K_next, e_try1K_ret, e_stopX_next, e_stopX_ret, e_clr_nil, e_clr_v, e_clr_no, e_clr_acc, e_own_xcp, e_xfF, e_xfK, List.getElem?_cons_zero, List.getElem?_cons_succ, List.getElem?_nil, List.set_cons_zero, List.set_cons_succ, List.map_cons, List.map_nil, List.length_cons, List.length_nil, List.cons_append, List.nil_append, List.append_nil, List.replicate, List.filterMap_cons, List.filterMap_nil, Option.map_some, Option.map_none, Option.some_or, Option.none_or, Option.bind_some, Option.bind_none, Nat.add_zero, Nat.zero_add, Nat.reduceAdd, Nat.reduceSub, Nat.reduceLT, Nat.reduceLeDiff, Nat.reduceMul, Nat.sub_zero, Nat.sub_self, if_true, if_false, reduceIte, decide_true, decide_false, Bool.not_true, Bool.not_false, Bool.true_and, Bool.and_true, Bool.false_and, Bool.and_false, Bool.true_or, Bool.or_true, Bool.false_or, Bool.or_false, and_true, true_and, and_false, false_and, or_true, true_or, or_false, false_or, not_true, not_false_iff, reduceCtorEq, eq_self, ne_eq, Bool.false_eq_true, Bool.true_eq_false, List.all_cons, List.all_nil, List.any_cons, List.any_nil, List.contains_cons, List.contains_nil, id_eq, startS, startN, sel, toN, toT, tsNil, tsCons, putX, wipeS, asLen, allW, anyW, sumW, asBools, asInts, max2W, min2W, bbT, isiW, tyN, String.reduceEq, String.reduceBEq, String.reduceNe, eqD_int, Bool.false_xor, Bool.true_xor, Bool.xor_false, Bool.xor_true, Int.reduceEq, Int.reduceLT, Int.reduceLE, Int.reduceAdd, Int.reduceSub, Int.reduceMul, Int.reduceNeg, Int.reducePow, Int.reduceToNat, Int.cast_ofNat_Int, Int.toNat_zero, Int.toNat_one, Int.toNat_natCast, decide_eq_true_eq, atI_lit, cutW_fromL, cutW_toL, cutW_midL, List.drop, List.take, beq_self_eq_true, elim_ite, bind_ite', ofStr_eq, ofStr_beq, zipW, sL, sLt, hz, h4]
def Iv (ws : List W) (ρ : List Sl) : Prop := (∀ w ∈ ws, w = .int 0 ∨ w = .int 1 ∨ w = .int 2) ∧ ∃ x0 s2 s3 s4 s5 s6 s7 s8, ρ = [x0, .v (.opq 0), s2, s3, s4, s5, s6, s7, s8]
theorem body_ok (w : W) (ws : List W) (ρ : List Sl) (h : Iv (w :: ws) ρ) : ∃ ρ1, toN 2 w ρ = some ρ1 ∧ (g_law_l1 ρ1).run (fun fl => match fl with | .next ρ' => Iv ws ρ' | .cont ρ' => Iv ws ρ' | .brk ρ' => Fl.next ρ' = .ret (.bl true) | x => x = .ret (.bl true)) (fun _ => False) := by
  obtain ⟨h1, x0, s2, s3, s4, s5, s6, s7, s8, rfl⟩ := h
  refine ⟨_, rfl, ?_⟩
  have hw : ∃ wide : Int, 0 < wide ∧ wide < 2 ^ 64 ∧ ixW (.lst [.int 2, .int 9, .int 400]) w = some (.int wide) := by
    rcases h1 w List.mem_cons_self with rfl | rfl | rfl
    · exact ⟨2, by decide, by decide, rfl⟩
    · exact ⟨9, by decide, by decide, rfl⟩
    · exact ⟨400, by decide, by decide, rfl⟩
  obtain ⟨wide, w0, w1, hw⟩ := hw
  simp only [g_law_l1, e_elim_elim, e_elim_bind, e_bind_elim, e_bind_bind, e_elim_run, e_bind_run, e_kE, e_kB, e_kR, e_elim_pure, e_elim_throw, e_elim_bad, e_ofO_some, e_ofO_none, e_Mpure, e_Mbind, e_pure_bind, e_throw_bind, e_bad_bind, e_pure_run, e_throw_run, e_bad_run, e_exN, e_sq, e_sqK_next, e_sqK_ret, e_sqK_exc, e_sqK_brk, e_sqK_cont, e_nx, e_brkS, e_contS, e_rtN, e_retK, e_rtS, e_dropK, e_drp, e_ifS, e_ifK, e_nextO, e_nextN, e_asg, e_asgK, e_asgX, e_asgXK, e_asgF, e_asgFK, e_setK, e_binK1, e_binK2, e_bin, e_augI, e_forL_nil, e_forL_cons, e_forB, e_forK_next, e_forK_cont, e_forK_brk, e_forK_ret, e_forK_exc, e_forSK, e_forS, e_itemsK, e_itS, e_rng1N, e_rng1L, e_rng1, e_rng2, e_rng2K, e_rng2J, e_zipK, e_zipL, e_zipT, e_itZip, e_enumK, e_itEnum, e_accOf, e_appK2, e_appK, e_appS, e_extK2, e_extK, e_extS, e_objK, e_stK2, e_stK, e_stO, e_gv, e_gb, e_gvK, e_gbK, e_gbA, e_cw, e_un1K, e_un1, e_unFK, e_unF, e_un1MK, e_un1M, e_binMK2, e_binMK1, e_binM, e_eqDF, e_eqF_not, e_eqF_ins, e_lenF_ins, e_lenF_not, e_noX_pure, e_asBK, e_tst, e_truK, e_tru, e_notK, e_notT, e_andK, e_orK, e_andT, e_orT, e_notVK, e_notV, e_andVK, e_orVK, e_andV, e_orV, e_ifEK, e_ifE, e_isN, e_isNK_non, e_isNK_int, e_isNK_tup, e_isNK_lst, e_isNK_str, e_isNK_bl, e_isNK_ins, e_negK, e_neg1, e_chn, e_chnK1, e_chnK2, e_chnK3, e_aNil, e_consK2, e_consK, e_aCons, e_starK2, e_starK1, e_aStar, e_tupK, e_lstK1, e_dTup, e_dLst, e_lstK, e_lstF, e_frzF, e_frz, e_frzO, e_frzOv, e_frzOn, e_xNil, e_xK2, e_xVK, e_xFK, e_xV, e_xF, e_partK, e_pNone, e_pSome, e_slTK3, e_slTK2, e_slTK1, e_slT, e_slLK3, e_slLK3r, e_slLK2, e_slLK1, e_slL, e_revK, e_revL, e_compK, e_compE, e_compL_nil, e_compL_cons, e_cK1, e_cK2, e_cK3, e_cK4, e_own_no, e_own_none, e_own_v, e_own_acc, e_own_obj, e_yesT, e_callK2, e_callK1, e_callF, e_skK2, e_skK1, e_skK0, e_callSK, e_mthK3, e_mthK2, e_mthK1, e_methF, e_kwF, e_mkF, e_insK, e_insM, e_bindW, e_bindN, e_bindStar, e_badX, e_bodyM, e_bodyN, e_endF_ret, e_endF_next, e_endF_exc, e_endN_next, e_endN_exc, e_objOf, e_recv, e_fldW, e_look, e_fldK, e_fldO, e_isIns, e_isIns_int, e_isIns_bl, e_isIns_str, e_isIns_non, e_isIns_tup, e_isIns_lst, e_asBool, e_negBool, e_addI, e_addW, e_subI, e_ltI, e_leI, e_gtI, e_geI, e_mulW, e_modI, e_fdivI, e_powI, e_pow9, e_pow18, e_pow20, e_lenT, e_lenL, e_intI, e_intB, e_absW, e_tupleL, e_tupleT, e_itemsL, e_itemsT, e_ixL, e_ixT, e_allW, e_anyW, e_sumW, e_rsK, e_rsS, e_tryA, e_tryK_exc, e_tryK_next, e_tryK_ret, e_goneK_next, e_goneK_ret, e_try1, e_try1K_exc, e_try1K_next, e_try1K_ret, e_stopX_next, e_stopX_ret, e_clr_nil, e_clr_v, e_clr_no, e_clr_acc, e_own_xcp, e_xfF, e_xfK, List.getElem?_cons_zero, List.getElem?_cons_succ, List.getElem?_nil, List.set_cons_zero, List.set_cons_succ, List.map_cons, List.map_nil, List.length_cons, List.length_nil, List.cons_append, List.nil_append, List.append_nil, List.replicate, List.filterMap_cons, List.filterMap_nil, Option.map_some, Option.map_none, Option.some_or, Option.none_or, Option.bind_some, Option.bind_none, Nat.add_zero, Nat.zero_add, Nat.reduceAdd, Nat.reduceSub, Nat.reduceLT, Nat.reduceLeDiff, Nat.reduceMul, Nat.sub_zero, Nat.sub_self, if_true, if_false, reduceIte, decide_true, decide_false, Bool.not_true, Bool.not_false, Bool.true_and, Bool.and_true, Bool.false_and, Bool.and_false, Bool.true_or, Bool.or_true, Bool.false_or, Bool.or_false, and_true, true_and, and_false, false_and, or_true, true_or, or_false, false_or, not_true, not_false_iff, reduceCtorEq, eq_self, ne_eq, Bool.false_eq_true, Bool.true_eq_false, List.all_cons, List.all_nil, List.any_cons, List.any_nil, List.contains_cons, List.contains_nil, id_eq, startS, startN, sel, toN, toT, tsNil, tsCons, putX, wipeS, asLen, allW, anyW, sumW, asBools, asInts, max2W, min2W, bbT, isiW, tyN, String.reduceEq, String.reduceBEq, String.reduceNe, eqD_int, Bool.false_xor, Bool.true_xor, Bool.xor_false, Bool.xor_true, Int.reduceEq, Int.reduceLT, Int.reduceLE, Int.reduceAdd, Int.reduceSub, Int.reduceMul, Int.reduceNeg, Int.reducePow, Int.reduceToNat, Int.cast_ofNat_Int, Int.toNat_zero, Int.toNat_one, Int.toNat_natCast, decide_eq_true_eq, atI_lit, cutW_fromL, cutW_toL, cutW_midL, List.drop, List.take, beq_self_eq_true, elim_ite, bind_ite', ofStr_eq, ofStr_beq, zipW, sL, sLt, hw]
  refine M.mono _ (fun a ha => ?_) (fun _ z => z.elim) (law_ladder_ok wide w0 w1)
  obtain ⟨fs, l, rfl, ok⟩ := ha
  have hl : fs.length ≤ 2 := by
    match fs, ok with
    | [], _ => simp
    | [_], _ => simp
    | [_, _], _ => simp
  have k1 := ladder_of_ok fs l ok
  simp only [e_elim_elim, e_elim_bind, e_bind_elim, e_bind_bind, e_elim_run, e_bind_run, e_kE, e_kB, e_kR, e_elim_pure, e_elim_throw, e_elim_bad, e_ofO_some, e_ofO_none, e_Mpure, e_Mbind, e_pure_bind, e_throw_bind, e_bad_bind, e_pure_run, e_throw_run, e_bad_run, e_exN, e_sq, e_sqK_next, e_sqK_ret, e_sqK_exc, e_sqK_brk, e_sqK_cont, e_nx, e_brkS, e_contS, e_rtN, e_retK, e_rtS, e_dropK, e_drp, e_ifS, e_ifK, e_nextO, e_nextN, e_asg, e_asgK, e_asgX, e_asgXK, e_asgF, e_asgFK, e_setK, e_binK1, e_binK2, e_bin, e_augI, e_forL_nil, e_forL_cons, e_forB, e_forK_next, e_forK_cont, e_forK_brk, e_forK_ret, e_forK_exc, e_forSK, e_forS, e_itemsK, e_itS, e_rng1N, e_rng1L, e_rng1, e_rng2, e_rng2K, e_rng2J, e_zipK, e_zipL, e_zipT, e_itZip, e_enumK, e_itEnum, e_accOf, e_appK2, e_appK, e_appS, e_extK2, e_extK, e_extS, e_objK, e_stK2, e_stK, e_stO, e_gv, e_gb, e_gvK, e_gbK, e_gbA, e_cw, e_un1K, e_un1, e_unFK, e_unF, e_un1MK, e_un1M, e_binMK2, e_binMK1, e_binM, e_eqDF, e_eqF_not, e_eqF_ins, e_lenF_ins, e_lenF_not, e_noX_pure, e_asBK, e_tst, e_truK, e_tru, e_notK, e_notT, e_andK, e_orK, e_andT, e_orT, e_notVK, e_notV, e_andVK, e_orVK, e_andV, e_orV, e_ifEK, e_ifE, e_isN, e_isNK_non, e_isNK_int, e_isNK_tup, e_isNK_lst, e_isNK_str, e_isNK_bl, e_isNK_ins, e_negK, e_neg1, e_chn, e_chnK1, e_chnK2, e_chnK3, e_aNil, e_consK2, e_consK, e_aCons, e_starK2, e_starK1, e_aStar, e_tupK, e_lstK1, e_dTup, e_dLst, e_lstK, e_lstF, e_frzF, e_frz, e_frzO, e_frzOv, e_frzOn, e_xNil, e_xK2, e_xVK, e_xFK, e_xV, e_xF, e_partK, e_pNone, e_pSome, e_slTK3, e_slTK2, e_slTK1, e_slT, e_slLK3, e_slLK3r, e_slLK2, e_slLK1, e_slL, e_revK, e_revL, e_compK, e_compE, e_compL_nil, e_compL_cons, e_cK1, e_cK2, e_cK3, e_cK4, e_own_no, e_own_none, e_own_v, e_own_acc, e_own_obj, e_yesT, e_callK2, e_callK1, e_callF, e_skK2, e_skK1, e_skK0, e_callSK, e_mthK3, e_mthK2, e_mthK1, e_methF, e_kwF, e_mkF, e_insK, e_insM, e_bindW, e_bindN, e_bindStar, e_badX, e_bodyM, e_bodyN, e_endF_ret, e_endF_next, e_endF_exc, e_endN_next, e_endN_exc, e_objOf, e_recv, e_fldW, e_look, e_fldK, e_fldO, e_isIns, e_isIns_int, e_isIns_bl, e_isIns_str, e_isIns_non, e_isIns_tup, e_isIns_lst, e_asBool, e_negBool, e_addI, e_addW, e_subI, e_ltI, e_leI, e_gtI, e_geI, e_mulW, e_modI, e_fdivI, e_powI, e_pow9, e_pow18, e_pow20, e_lenT, e_lenL, e_intI, e_intB, e_absW, e_tupleL, e_tupleT, e_itemsL, e_itemsT, e_ixL, e_ixT, e_allW, e_anyW, e_sumW, e_rsK, e_rsS, e_tryA, e_tryK_exc, e_tryK_next, e_tryK_ret, e_goneK_next, e_goneK_ret, e_try1, e_try1K_exc, e_try1K_next, e_try1K_ret, e_stopX_next, e_stopX_ret, e_clr_nil, e_clr_v, e_clr_no, e_clr_acc, e_own_xcp, e_xfF, e_xfK, List.getElem?_cons_zero, List.getElem?_cons_succ, List.getElem?_nil, List.set_cons_zero, List.set_cons_succ, List.map_cons, List.map_nil, List.length_cons, List.length_nil, List.cons_append, List.nil_append, List.append_nil, List.replicate, List.filterMap_cons, List.filterMap_nil, Option.map_some, Option.map_none, Option.some_or, Option.none_or, Option.bind_some, Option.bind_none, Nat.add_zero, Nat.zero_add, Nat.reduceAdd, Nat.reduceSub, Nat.reduceLT, Nat.reduceLeDiff, Nat.reduceMul, Nat.sub_zero, Nat.sub_self, if_true, if_false, reduceIte, decide_true, decide_false, Bool.not_true, Bool.not_false, Bool.true_and, Bool.and_true, Bool.false_and, Bool.and_false, Bool.true_or, Bool.or_true, Bool.false_or, Bool.or_false, and_true, true_and, and_false, false_and, or_true, true_or, or_false, false_or, not_true, not_false_iff, reduceCtorEq, eq_self, ne_eq, Bool.false_eq_true, Bool.true_eq_false, List.all_cons, List.all_nil, List.any_cons, List.any_nil, List.contains_cons, List.contains_nil, id_eq, startS, startN, sel, toN, toT, tsNil, tsCons, putX, wipeS, asLen, allW, anyW, sumW, asBools, asInts, max2W, min2W, bbT, isiW, tyN, String.reduceEq, String.reduceBEq, String.reduceNe, eqD_int, Bool.false_xor, Bool.true_xor, Bool.xor_false, Bool.xor_true, Int.reduceEq, Int.reduceLT, Int.reduceLE, Int.reduceAdd, Int.reduceSub, Int.reduceMul, Int.reduceNeg, Int.reducePow, Int.reduceToNat, Int.cast_ofNat_Int, Int.toNat_zero, Int.toNat_one, Int.toNat_natCast, decide_eq_true_eq, atI_lit, cutW_fromL, cutW_toL, cutW_midL, List.drop, List.take, beq_self_eq_true, elim_ite, bind_ite', ofStr_eq, ofStr_beq, zipW, sL, sLt, k1]
  refine draw_run (by decide) (by decide) fun t t0 t1 => ?_
  obtain ⟨ms, s6a, m2⟩ := spots_ok (x0 := x0) (x1 := .v (.opq 0)) (x2 := .v w) (x3 := .v (.tup [.tup (fs.map fW), .int l])) (x4 := .v (ladW fs l)) (x7 := s7) (x8 := s8) fs [0, 1000000000000000000, t] s6 (by simp; omega)
  obtain ⟨a, b, c, e2⟩ := l3_ok ok (x0 := x0) (x1 := .v (.opq 0)) (x2 := .v w) (x5 := .v (.lst (ms.map .int))) ms s6a s7 s8
  simp only [List.map_cons, List.map_nil] at m2
  simp only [e_elim_elim, e_elim_bind, e_bind_elim, e_bind_bind, e_elim_run, e_bind_run, e_kE, e_kB, e_kR, e_elim_pure, e_elim_throw, e_elim_bad, e_ofO_some, e_ofO_none, e_Mpure, e_Mbind, e_pure_bind, e_throw_bind, e_bad_bind, e_pure_run, e_throw_run, e_bad_run, e_exN, e_sq, e_sqK_next, e_sqK_ret, e_sqK_exc, e_sqK_brk, e_sqK_cont, e_nx, e_brkS, e_contS, e_rtN, e_retK, e_rtS, e_dropK, e_drp, e_ifS, e_ifK, e_nextO, e_nextN, e_asg, e_asgK, e_asgX, e_asgXK, e_asgF, e_asgFK, e_setK, e_binK1, e_binK2, e_bin, e_augI, e_forL_nil, e_forL_cons, e_forB, e_forK_next, e_forK_cont, e_forK_brk, e_forK_ret, e_forK_exc, e_forSK, e_forS, e_itemsK, e_itS, e_rng1N, e_rng1L, e_rng1, e_rng2, e_rng2K, e_rng2J, e_zipK, e_zipL, e_zipT, e_itZip, e_enumK, e_itEnum, e_accOf, e_appK2, e_appK, e_appS, e_extK2, e_extK, e_extS, e_objK, e_stK2, e_stK, e_stO, e_gv, e_gb, e_gvK, e_gbK, e_gbA, e_cw, e_un1K, e_un1, e_unFK, e_unF, e_un1MK, e_un1M, e_binMK2, e_binMK1, e_binM, e_eqDF, e_eqF_not, e_eqF_ins, e_lenF_ins, e_lenF_not, e_noX_pure, e_asBK, e_tst, e_truK, e_tru, e_notK, e_notT, e_andK, e_orK, e_andT, e_orT, e_notVK, e_notV, e_andVK, e_orVK, e_andV, e_orV, e_ifEK, e_ifE, e_isN, e_isNK_non, e_isNK_int, e_isNK_tup, e_isNK_lst, e_isNK_str, e_isNK_bl, e_isNK_ins, e_negK, e_neg1, e_chn, e_chnK1, e_chnK2, e_chnK3, e_aNil, e_consK2, e_consK, e_aCons, e_starK2, e_starK1, e_aStar, e_tupK, e_lstK1, e_dTup, e_dLst, e_lstK, e_lstF, e_frzF, e_frz, e_frzO, e_frzOv, e_frzOn, e_xNil, e_xK2, e_xVK, e_xFK, e_xV, e_xF, e_partK, e_pNone, e_pSome, e_slTK3, e_slTK2, e_slTK1, e_slT, e_slLK3, e_slLK3r, e_slLK2, e_slLK1, e_slL, e_revK, e_revL, e_compK, e_compE, e_compL_nil, e_compL_cons, e_cK1, e_cK2, e_cK3, e_cK4, e_own_no, e_own_none, e_own_v, e_own_acc, e_own_obj, e_yesT, e_callK2, e_callK1, e_callF, e_skK2, e_skK1, e_skK0, e_callSK, e_mthK3, e_mthK2, e_mthK1, e_methF, e_kwF, e_mkF, e_insK, e_insM, e_bindW, e_bindN, e_bindStar, e_badX, e_bodyM, e_bodyN, e_endF_ret, e_endF_next, e_endF_exc, e_endN_next, e_endN_exc, e_objOf, e_recv, e_fldW, e_look, e_fldK, e_fldO, e_isIns, e_isIns_int, e_isIns_bl, e_isIns_str, e_isIns_non, e_isIns_tup, e_isIns_lst, e_asBool, e_negBool, e_addI, e_addW, e_subI, e_ltI, e_leI, e_gtI, e_geI, e_mulW, e_modI, e_fdivI, e_powI, e_pow9, e_pow18, e_pow20, e_lenT, e_lenL, e_intI, e_intB, e_absW, e_tupleL, e_tupleT, e_itemsL, e_itemsT, e_ixL, e_ixT, e_allW, e_anyW, e_sumW, e_rsK, e_rsS, e_tryA, e_tryK_exc, e_tryK_next, e_tryK_ret, e_goneK_next, e_goneK_ret, e_try1, e_try1K_exc, e_try1K_next, e_try1K_ret, e_stopX_next, e_stopX_ret, e_clr_nil, e_clr_v, e_clr_no, e_clr_acc, e_own_xcp, e_xfF, e_xfK, List.getElem?_cons_zero, List.getElem?_cons_succ, List.getElem?_nil, List.set_cons_zero, List.set_cons_succ, List.map_cons, List.map_nil, List.length_cons, List.length_nil, List.cons_append, List.nil_append, List.append_nil, List.replicate, List.filterMap_cons, List.filterMap_nil, Option.map_some, Option.map_none, Option.some_or, Option.none_or, Option.bind_some, Option.bind_none, Nat.add_zero, Nat.zero_add, Nat.reduceAdd, Nat.reduceSub, Nat.reduceLT, Nat.reduceLeDiff, Nat.reduceMul, Nat.sub_zero, Nat.sub_self, if_true, if_false, reduceIte, decide_true, decide_false, Bool.not_true, Bool.not_false, Bool.true_and, Bool.and_true, Bool.false_and, Bool.and_false, Bool.true_or, Bool.or_true, Bool.false_or, Bool.or_false, and_true, true_and, and_false, false_and, or_true, true_or, or_false, false_or, not_true, not_false_iff, reduceCtorEq, eq_self, ne_eq, Bool.false_eq_true, Bool.true_eq_false, List.all_cons, List.all_nil, List.any_cons, List.any_nil, List.contains_cons, List.contains_nil, id_eq, startS, startN, sel, toN, toT, tsNil, tsCons, putX, wipeS, asLen, allW, anyW, sumW, asBools, asInts, max2W, min2W, bbT, isiW, tyN, String.reduceEq, String.reduceBEq, String.reduceNe, eqD_int, Bool.false_xor, Bool.true_xor, Bool.xor_false, Bool.xor_true, Int.reduceEq, Int.reduceLT, Int.reduceLE, Int.reduceAdd, Int.reduceSub, Int.reduceMul, Int.reduceNeg, Int.reducePow, Int.reduceToNat, Int.cast_ofNat_Int, Int.toNat_zero, Int.toNat_one, Int.toNat_natCast, decide_eq_true_eq, atI_lit, cutW_fromL, cutW_toL, cutW_midL, List.drop, List.take, beq_self_eq_true, elim_ite, bind_ite', ofStr_eq, ofStr_beq, zipW, sL, sLt, m2, e2]
  exact ⟨fun w hw => h1 w (List.mem_cons_of_mem _ hw), _, _, _, _, _, _, _, _, rfl⟩
theorem q1 : (g_law (dealSlots 9 1)).run (fun fl => fl = .ret (.bl true)) (fun _ => False) := by
  simp only [g_law, dealSlots, e_elim_elim, e_elim_bind, e_bind_elim, e_bind_bind, e_elim_run, e_bind_run, e_kE, e_kB, e_kR, e_elim_pure, e_elim_throw, e_elim_bad, e_ofO_some, e_ofO_none, e_Mpure, e_Mbind, e_pure_bind, e_throw_bind, e_bad_bind, e_pure_run, e_throw_run, e_bad_run, e_exN, e_sq, e_sqK_next, e_sqK_ret, e_sqK_exc, e_sqK_brk, e_sqK_cont, e_nx, e_brkS, e_contS, e_rtN, e_retK, e_rtS, e_dropK, e_drp, e_ifS, e_ifK, e_nextO, e_nextN, e_asg, e_asgK, e_asgX, e_asgXK, e_asgF, e_asgFK, e_setK, e_binK1, e_binK2, e_bin, e_augI, e_forL_nil, e_forL_cons, e_forB, e_forK_next, e_forK_cont, e_forK_brk, e_forK_ret, e_forK_exc, e_forSK, e_forS, e_itemsK, e_itS, e_rng1N, e_rng1L, e_rng1, e_rng2, e_rng2K, e_rng2J, e_zipK, e_zipL, e_zipT, e_itZip, e_enumK, e_itEnum, e_accOf, e_appK2, e_appK, e_appS, e_extK2, e_extK, e_extS, e_objK, e_stK2, e_stK, e_stO, e_gv, e_gb, e_gvK, e_gbK, e_gbA, e_cw, e_un1K, e_un1, e_unFK, e_unF, e_un1MK, e_un1M, e_binMK2, e_binMK1, e_binM, e_eqDF, e_eqF_not, e_eqF_ins, e_lenF_ins, e_lenF_not, e_noX_pure, e_asBK, e_tst, e_truK, e_tru, e_notK, e_notT, e_andK, e_orK, e_andT, e_orT, e_notVK, e_notV, e_andVK, e_orVK, e_andV, e_orV, e_ifEK, e_ifE, e_isN, e_isNK_non, e_isNK_int, e_isNK_tup, e_isNK_lst, e_isNK_str, e_isNK_bl, e_isNK_ins, e_negK, e_neg1, e_chn, e_chnK1, e_chnK2, e_chnK3, e_aNil, e_consK2, e_consK, e_aCons, e_starK2, e_starK1, e_aStar, e_tupK, e_lstK1, e_dTup, e_dLst, e_lstK, e_lstF, e_frzF, e_frz, e_frzO, e_frzOv, e_frzOn, e_xNil, e_xK2, e_xVK, e_xFK, e_xV, e_xF, e_partK, e_pNone, e_pSome, e_slTK3, e_slTK2, e_slTK1, e_slT, e_slLK3, e_slLK3r, e_slLK2, e_slLK1, e_slL, e_revK, e_revL, e_compK, e_compE, e_compL_nil, e_compL_cons, e_cK1, e_cK2, e_cK3, e_cK4, e_own_no, e_own_none, e_own_v, e_own_acc, e_own_obj, e_yesT, e_callK2, e_callK1, e_callF, e_skK2, e_skK1, e_skK0, e_callSK, e_mthK3, e_mthK2, e_mthK1, e_methF, e_kwF, e_mkF, e_insK, e_insM, e_bindW, e_bindN, e_bindStar, e_badX, e_bodyM, e_bodyN, e_endF_ret, e_endF_next, e_endF_exc, e_endN_next, e_endN_exc, e_objOf, e_recv, e_fldW, e_look, e_fldK, e_fldO, e_isIns, e_isIns_int, e_isIns_bl, e_isIns_str, e_isIns_non, e_isIns_tup, e_isIns_lst, e_asBool, e_negBool, e_addI, e_addW, e_subI, e_ltI, e_leI, e_gtI, e_geI, e_mulW, e_modI, e_fdivI, e_powI, e_pow9, e_pow18, e_pow20, e_lenT, e_lenL, e_intI, e_intB, e_absW, e_tupleL, e_tupleT, e_itemsL, e_itemsT, e_ixL, e_ixT, e_allW, e_anyW, e_sumW, e_rsK, e_rsS, e_tryA, e_tryK_exc, e_tryK_next, e_tryK_ret, e_goneK_next, e_goneK_ret, e_try1, e_try1K_exc, e_try1K_next, e_try1K_ret, e_stopX_next, e_stopX_ret, e_clr_nil, e_clr_v, e_clr_no, e_clr_acc, e_own_xcp, e_xfF, e_xfK, List.getElem?_cons_zero, List.getElem?_cons_succ, List.getElem?_nil, List.set_cons_zero, List.set_cons_succ, List.map_cons, List.map_nil, List.length_cons, List.length_nil, List.cons_append, List.nil_append, List.append_nil, List.replicate, List.filterMap_cons, List.filterMap_nil, Option.map_some, Option.map_none, Option.some_or, Option.none_or, Option.bind_some, Option.bind_none, Nat.add_zero, Nat.zero_add, Nat.reduceAdd, Nat.reduceSub, Nat.reduceLT, Nat.reduceLeDiff, Nat.reduceMul, Nat.sub_zero, Nat.sub_self, if_true, if_false, reduceIte, decide_true, decide_false, Bool.not_true, Bool.not_false, Bool.true_and, Bool.and_true, Bool.false_and, Bool.and_false, Bool.true_or, Bool.or_true, Bool.false_or, Bool.or_false, and_true, true_and, and_false, false_and, or_true, true_or, or_false, false_or, not_true, not_false_iff, reduceCtorEq, eq_self, ne_eq, Bool.false_eq_true, Bool.true_eq_false, List.all_cons, List.all_nil, List.any_cons, List.any_nil, List.contains_cons, List.contains_nil, id_eq, startS, startN, sel, toN, toT, tsNil, tsCons, putX, wipeS, asLen, allW, anyW, sumW, asBools, asInts, max2W, min2W, bbT, isiW, tyN, String.reduceEq, String.reduceBEq, String.reduceNe, eqD_int, Bool.false_xor, Bool.true_xor, Bool.xor_false, Bool.xor_true, Int.reduceEq, Int.reduceLT, Int.reduceLE, Int.reduceAdd, Int.reduceSub, Int.reduceMul, Int.reduceNeg, Int.reducePow, Int.reduceToNat, Int.cast_ofNat_Int, Int.toNat_zero, Int.toNat_one, Int.toNat_natCast, decide_eq_true_eq, atI_lit, cutW_fromL, cutW_toL, cutW_midL, List.drop, List.take, beq_self_eq_true, elim_ite, bind_ite', ofStr_eq, ofStr_beq, zipW, sL, sLt]
  refine forL_run (I := Iv) (fun ρ hρ => ?_) (fun w ws ρ h => ?_) ⟨?_, _, _, _, _, _, _, _, _, rfl⟩
  · exact rfl
  · obtain ⟨ρ1, e1, e2⟩ := body_ok w ws ρ h
    refine ⟨ρ1, e1, M.mono _ (fun fl hf => ?_) (fun _ z => z) e2⟩
    cases fl with
    | next ρ' => exact hf
    | cont ρ' => exact hf
    | brk ρ' => cases hf
    | ret w => cases hf; exact rfl
    | exc e ρ' => cases hf
  · simp [rngW, List.range, List.range.loop]
theorem q0 (ns : List Int) (hl : ns.length ≤ 63) (hb : ∀ z ∈ ns, Builtin.Int.intBits z ≤ 1048576) : (f0 (startS 9 [.ro (ns.map .int)])).run IsDeal (fun _ => False) := by
  simp only [f0, e_elim_elim, e_elim_bind, e_bind_elim, e_bind_bind, e_elim_run, e_bind_run, e_kE, e_kB, e_kR, e_elim_pure, e_elim_throw, e_elim_bad, e_ofO_some, e_ofO_none, e_Mpure, e_Mbind, e_pure_bind, e_throw_bind, e_bad_bind, e_pure_run, e_throw_run, e_bad_run, e_exN, e_sq, e_sqK_next, e_sqK_ret, e_sqK_exc, e_sqK_brk, e_sqK_cont, e_nx, e_brkS, e_contS, e_rtN, e_retK, e_rtS, e_dropK, e_drp, e_ifS, e_ifK, e_nextO, e_nextN, e_asg, e_asgK, e_asgX, e_asgXK, e_asgF, e_asgFK, e_setK, e_binK1, e_binK2, e_bin, e_augI, e_forL_nil, e_forL_cons, e_forB, e_forK_next, e_forK_cont, e_forK_brk, e_forK_ret, e_forK_exc, e_forSK, e_forS, e_itemsK, e_itS, e_rng1N, e_rng1L, e_rng1, e_rng2, e_rng2K, e_rng2J, e_zipK, e_zipL, e_zipT, e_itZip, e_enumK, e_itEnum, e_accOf, e_appK2, e_appK, e_appS, e_extK2, e_extK, e_extS, e_objK, e_stK2, e_stK, e_stO, e_gv, e_gb, e_gvK, e_gbK, e_gbA, e_cw, e_un1K, e_un1, e_unFK, e_unF, e_un1MK, e_un1M, e_binMK2, e_binMK1, e_binM, e_eqDF, e_eqF_not, e_eqF_ins, e_lenF_ins, e_lenF_not, e_noX_pure, e_asBK, e_tst, e_truK, e_tru, e_notK, e_notT, e_andK, e_orK, e_andT, e_orT, e_notVK, e_notV, e_andVK, e_orVK, e_andV, e_orV, e_ifEK, e_ifE, e_isN, e_isNK_non, e_isNK_int, e_isNK_tup, e_isNK_lst, e_isNK_str, e_isNK_bl, e_isNK_ins, e_negK, e_neg1, e_chn, e_chnK1, e_chnK2, e_chnK3, e_aNil, e_consK2, e_consK, e_aCons, e_starK2, e_starK1, e_aStar, e_tupK, e_lstK1, e_dTup, e_dLst, e_lstK, e_lstF, e_frzF, e_frz, e_frzO, e_frzOv, e_frzOn, e_xNil, e_xK2, e_xVK, e_xFK, e_xV, e_xF, e_partK, e_pNone, e_pSome, e_slTK3, e_slTK2, e_slTK1, e_slT, e_slLK3, e_slLK3r, e_slLK2, e_slLK1, e_slL, e_revK, e_revL, e_compK, e_compE, e_compL_nil, e_compL_cons, e_cK1, e_cK2, e_cK3, e_cK4, e_own_no, e_own_none, e_own_v, e_own_acc, e_own_obj, e_yesT, e_callK2, e_callK1, e_callF, e_skK2, e_skK1, e_skK0, e_callSK, e_mthK3, e_mthK2, e_mthK1, e_methF, e_kwF, e_mkF, e_insK, e_insM, e_bindW, e_bindN, e_bindStar, e_badX, e_bodyM, e_bodyN, e_endF_ret, e_endF_next, e_endF_exc, e_endN_next, e_endN_exc, e_objOf, e_recv, e_fldW, e_look, e_fldK, e_fldO, e_isIns, e_isIns_int, e_isIns_bl, e_isIns_str, e_isIns_non, e_isIns_tup, e_isIns_lst, e_asBool, e_negBool, e_addI, e_addW, e_subI, e_ltI, e_leI, e_gtI, e_geI, e_mulW, e_modI, e_fdivI, e_powI, e_pow9, e_pow18, e_pow20, e_lenT, e_lenL, e_intI, e_intB, e_absW, e_tupleL, e_tupleT, e_itemsL, e_itemsT, e_ixL, e_ixT, e_allW, e_anyW, e_sumW, e_rsK, e_rsS, e_tryA, e_tryK_exc, e_tryK_next, e_tryK_ret, e_goneK_next, e_goneK_ret, e_try1, e_try1K_exc, e_try1K_next, e_try1K_ret, e_stopX_next, e_stopX_ret, e_clr_nil, e_clr_v, e_clr_no, e_clr_acc, e_own_xcp, e_xfF, e_xfK, List.getElem?_cons_zero, List.getElem?_cons_succ, List.getElem?_nil, List.set_cons_zero, List.set_cons_succ, List.map_cons, List.map_nil, List.length_cons, List.length_nil, List.cons_append, List.nil_append, List.append_nil, List.replicate, List.filterMap_cons, List.filterMap_nil, Option.map_some, Option.map_none, Option.some_or, Option.none_or, Option.bind_some, Option.bind_none, Nat.add_zero, Nat.zero_add, Nat.reduceAdd, Nat.reduceSub, Nat.reduceLT, Nat.reduceLeDiff, Nat.reduceMul, Nat.sub_zero, Nat.sub_self, if_true, if_false, reduceIte, decide_true, decide_false, Bool.not_true, Bool.not_false, Bool.true_and, Bool.and_true, Bool.false_and, Bool.and_false, Bool.true_or, Bool.or_true, Bool.false_or, Bool.or_false, and_true, true_and, and_false, false_and, or_true, true_or, or_false, false_or, not_true, not_false_iff, reduceCtorEq, eq_self, ne_eq, Bool.false_eq_true, Bool.true_eq_false, List.all_cons, List.all_nil, List.any_cons, List.any_nil, List.contains_cons, List.contains_nil, id_eq, startS, startN, sel, toN, toT, tsNil, tsCons, putX, wipeS, asLen, allW, anyW, sumW, asBools, asInts, max2W, min2W, bbT, isiW, tyN, String.reduceEq, String.reduceBEq, String.reduceNe, eqD_int, Bool.false_xor, Bool.true_xor, Bool.xor_false, Bool.xor_true, Int.reduceEq, Int.reduceLT, Int.reduceLE, Int.reduceAdd, Int.reduceSub, Int.reduceMul, Int.reduceNeg, Int.reducePow, Int.reduceToNat, Int.cast_ofNat_Int, Int.toNat_zero, Int.toNat_one, Int.toNat_natCast, decide_eq_true_eq, atI_lit, cutW_fromL, cutW_toL, cutW_midL, List.drop, List.take, beq_self_eq_true, elim_ite, bind_ite', ofStr_eq, ofStr_beq, zipW, sL, sLt]
  exact deal_ok ns hl hb
end K04


namespace K04
open PySem PySem.Spec PyProof.Rows L2 Sh
abbrev R : PySem.W.OpenRow := PySem.W.OpenLaw.row PySem.Challenge.rw_relaidrows_k04_forms_that_reach
abbrev hk : PySem.W.Hook := He.hookX 4 fa fn [] [] ex
def ob (s : PySem.W.SharedT) : He.AlX := He.obsX 4 fa fn [] [] ex (HandSHeadRun.getT s)
theorem ob_eq (s : PySem.W.SharedT) : ob s = hk.obs s.abs := He.obsX_eq (HandSHeadRun.getT_eq s)
def names : List Str := ["_wall", "RelayError", "InvalidLadder", "NoForm", "is_integer", "is_form", "check_forms", "Ladder", "_law_deal", "_law_draw", "_law_ladder", "_law_ladder_of", "_law_is_far", "_law_told", "_law_is_right"]
theorem runT (w : World) : HandSHeadRun.RunEq R (PySem.W.view R.prog [19]) hk ob 6000 names w := by
  intro os
  kernel_rfl
end K04
open PySem PySem.W PySem.Calls PyProof.Rows
theorem PySem.Challenge.cw_relaidrows_k04_forms_that_reach_holds : PySem.Challenge.rw_relaidrows_k04_forms_that_reach.Holds := by
  w_on; o_law
  refine HandSHeadRun.head_any (r := OpenLaw.row PySem.Challenge.rw_relaidrows_k04_forms_that_reach) (q := view (OpenLaw.row PySem.Challenge.rw_relaidrows_k04_forms_that_reach).prog [19]) (H := K04.hk) (ob := K04.ob) (M := 6000) (loose := K04.names) (d := HandSHeadRun.topDef (OpenLaw.row PySem.Challenge.rw_relaidrows_k04_forms_that_reach).prog 19) (kwd := []) K04.ob_eq
    (by kernel_rfl) (fun s => by kernel_rfl) K04.runT (by kernel_rfl) (by kernel_rfl) (by kernel_rfl) (by rfl) (by first | assumption | decide +kernel) (by decide +kernel) ⟨rfl, rfl, rfl, rfl, rfl, by decide +kernel⟩ ?hw ?hc
  case hw => w_witness2
  case hc =>
    refine Sh.walk_ofS (l := PySem.Challenge.rw_relaidrows_k04_forms_that_reach) (n := 63) rfl (by decide) (by kernel_rfl) ?F
    intro w mg fa h Y G hmg0
    obtain ⟨K, KX, c⟩ := Y
    have T : K04.TX K mg := ⟨c.t.d, c.more, h, KX, G⟩
    have hmg : mg ("law" : PySem.Str) = some (.ref fa) := by
      have e : (HandSHeadRun.topDef (OpenLaw.row PySem.Challenge.rw_relaidrows_k04_forms_that_reach).prog 19).name = ("law" : PySem.Str) := by kernel_rfl
      rw [← e]
      exact hmg0
    have e1 := hmg.symm.trans (T.glo 33)
    cases e1
    refine ⟨K, KX, fun a ns s base H hl hb KB GB e0 only sq => ?_⟩
    exact K04.run T (by rw [sizeLine_eq]; omega) e0 only sq (K04.q0 ns hl hb) K04.q1


