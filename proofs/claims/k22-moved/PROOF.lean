import PyProof.Rows.All
import Wide.All
import OpenK.AllK
import Wide.FinOn
import HandS.ForMost
import HandS.TupAny
import HandS.Zip
import HandS.Star
import HandS.Property
import HandS.IsInst
import HandS.DictComp
import HandS.Style
import HandS.Defaults
import HandS.ClsMeth
import HandS.Wide
import HandS.FStr
import HandS.Walk
import HandS.SortOrd
import KE.GoesMore
import HandS.MethStar
import HandS.SortRule
import KE.KSortTupAny
import HandS.SlotsOwn
import HandS.RaiseMore
import HandS.More
import PyProof.InstNe
import KE.GoesZip
import HandS.SortKw
import HandS.Codes
import KE.KMinKey
import HandS.ExcOwn
import HandS.TryOnly
import HandS.WordsExc
import KE.KRevSl
import PySem.Challenge.RW_leastlap_k22_moved_and_apart
set_option Elab.async false
set_option maxRecDepth 100000
set_option linter.all false
section
namespace DL
open PySem L2

inductive D where
  | non | bl (b : Bool) | int (i : Int) | str (s : Str)
  | tup (ds : List D) | lst (ds : List D)
  | dic (ks : List Key) (ds : List D)
  | obj (c : String) (ns : List String) (ds : List D)
  | ext (n : Nat)
  /-- a built-in class; an own class -/
  | ty (n : String) | cls (c : String)

/-- what a proof is about: the written part, the own classes by name, special addresses (mutable, known by their own rule) -/
structure Par where
  K : PySem.W.Frag
  cls : String → Option Addr
  ext : Nat → Option Addr
  dk : Addr → Prop
  At : Nat → Hp → Prop
  keep : ∀ n H H', (∀ a o, dk a → H a = some o → H' a = some o) → At n H → At n H'
  there : ∀ n H a, At n H → dk a → ∃ o, H a = some o

def TupK (K : PySem.W.Frag) (a : Addr) (xs : List V) : Prop :=
  ∃ (o : Obj) (its : Array Value) (n : Nat), K.lookup a = some o ∧ o.cls = .type "tuple" ∧ o.data = .seq its n ∧ its.size ≤ sizeLine ∧ Vals xs its.toList

mutual
def Rp (p : Par) (O : Addr → Prop) (H : Hp) : D → V → Prop
  | .non, v => v = .non
  | .bl b, v => v = .bl b
  | .int i, v => v = .int i
  | .str s, v => v = .str s
  | .tup ds, v => ∃ a vs, v = .ref a ∧ ((¬ O a ∧ H a = some (.tup vs)) ∨ TupK p.K a vs) ∧ RpL p O H ds vs
  | .lst ds, v => ∃ a vs, v = .ref a ∧ ¬ O a ∧ H a = some (.lst vs) ∧ RpL p O H ds vs
  | .dic ks ds, v => ∃ a xs, v = .ref a ∧ ¬ O a ∧ H a = some (.dK xs) ∧ xs.map (·.1) = ks ∧ RpL p O H ds (xs.map (·.2))
  | .obj c ns ds, v => ∃ a C dx xs, v = .ref a ∧ ¬ O a ∧ H a = some (.ins C dx xs) ∧ p.cls c = some C ∧ xs.map (·.1) = ns.map Str.ofString ∧ RpL p O H ds (xs.map (·.2))
  | .ext n, v => ∃ a, v = .ref a ∧ p.ext n = some a
  | .ty n, v => v = .ty n
  | .cls c, v => ∃ a, v = .ref a ∧ p.cls c = some a
def RpL (p : Par) (O : Addr → Prop) (H : Hp) : List D → List V → Prop
  | [], vs => vs = []
  | d :: ds, vs => ∃ x xs, vs = x :: xs ∧ Rp p O H d x ∧ RpL p O H ds xs
end

/-- what is not owned is kept, and stays not owned -/
def Gr (O : Addr → Prop) (H : Hp) (O' : Addr → Prop) (H' : Hp) : Prop := ∀ a o, ¬ O a → H a = some o → ¬ O' a ∧ H' a = some o
theorem Gr.refl {O H} : Gr O H O H := fun _ _ h e => ⟨h, e⟩
theorem Gr.trans {O H O1 H1 O2 H2} (a : Gr O H O1 H1) (b : Gr O1 H1 O2 H2) : Gr O H O2 H2 := fun x o h e => b x o (a x o h e).1 (a x o h e).2

section
variable {p : Par} {O O' : Addr → Prop} {H H' : Hp}
mutual
theorem Rp.gr (g : Gr O H O' H') : ∀ (d : D) (v : V), Rp p O H d v → Rp p O' H' d v
  | .non, v, h => by simpa [Rp] using h
  | .bl b, v, h => by simpa [Rp] using h
  | .int i, v, h => by simpa [Rp] using h
  | .str s, v, h => by simpa [Rp] using h
  | .tup ds, v, h => by
    obtain ⟨a, vs, e, h1, h2⟩ := h
    refine ⟨a, vs, e, ?_, RpL.gr g ds vs h2⟩
    rcases h1 with ⟨n, q⟩ | q
    · exact .inl (g _ _ n q)
    · exact .inr q
  | .lst ds, v, h => by
    obtain ⟨a, vs, e, n, q, h2⟩ := h
    exact ⟨a, vs, e, (g _ _ n q).1, (g _ _ n q).2, RpL.gr g ds vs h2⟩
  | .dic ks ds, v, h => by
    obtain ⟨a, vs, e, n, q, e2, h2⟩ := h
    exact ⟨a, vs, e, (g _ _ n q).1, (g _ _ n q).2, e2, RpL.gr g ds _ h2⟩
  | .obj c ns ds, v, h => by
    obtain ⟨a, C, dx, vs, e, n, q, c1, e2, h2⟩ := h
    exact ⟨a, C, dx, vs, e, (g _ _ n q).1, (g _ _ n q).2, c1, e2, RpL.gr g ds _ h2⟩
  | .ext n, v, h => by simpa [Rp] using h
  | .ty n, v, h => by simpa [Rp] using h
  | .cls n, v, h => by simpa [Rp] using h
theorem RpL.gr (g : Gr O H O' H') : ∀ (ds : List D) (vs : List V), RpL p O H ds vs → RpL p O' H' ds vs
  | [], _, h => h
  | d :: ds, vs, h => by
    obtain ⟨x, xs, e, h1, h2⟩ := h
    exact ⟨x, xs, e, Rp.gr g d x h1, RpL.gr g ds xs h2⟩
end
/-- new addresses may be owned; owned ones may be let go -/
theorem gr_own (h : ∀ a o, H a = some o → O' a → O a) : Gr O H O' H := fun a o n e => ⟨fun q => n (h a o e q), e⟩
theorem gr_new {q : Addr} {o : HO} (h : H q = none) : Gr O H O (upd H q o) := fun a u n e => ⟨n, by rw [upd_ne (ne_of_none e h)]; exact e⟩
theorem RpL.length : ∀ {ds : List D} {vs : List V}, RpL p O H ds vs → ds.length = vs.length
  | [], _, h => by cases h; rfl
  | d :: ds, vs, h => by
    obtain ⟨x, xs, rfl, _, h2⟩ := h
    simp [RpL.length h2]
theorem RpL.nil_iff {vs : List V} : RpL p O H [] vs ↔ vs = [] := Iff.rfl
theorem RpL.cons_iff {d : D} {ds : List D} {vs : List V} : RpL p O H (d :: ds) vs ↔ ∃ x xs, vs = x :: xs ∧ Rp p O H d x ∧ RpL p O H ds xs := Iff.rfl
theorem RpL.cons {d : D} {ds : List D} {x : V} {xs : List V} (h : Rp p O H d x) (t : RpL p O H ds xs) : RpL p O H (d :: ds) (x :: xs) := ⟨x, xs, rfl, h, t⟩
theorem RpL.append : ∀ {ds es : List D} {xs ys : List V}, RpL p O H ds xs → RpL p O H es ys → RpL p O H (ds ++ es) (xs ++ ys)
  | [], _, _, _, h, t => by cases h; exact t
  | d :: ds, _, _, _, h, t => by
    obtain ⟨x, xs, rfl, h1, h2⟩ := h
    exact .cons h1 (RpL.append h2 t)
theorem RpL.get : ∀ {ds : List D} {vs : List V} {i : Nat} {d : D}, RpL p O H ds vs → ds[i]? = some d → ∃ v, vs[i]? = some v ∧ Rp p O H d v
  | [], _, _, _, _, e => by simp at e
  | d :: ds, _, 0, _, h, e => by
    obtain ⟨x, xs, rfl, h1, h2⟩ := h
    simp at e; subst e
    exact ⟨x, rfl, h1⟩
  | d :: ds, _, i + 1, _, h, e => by
    obtain ⟨x, xs, rfl, h1, h2⟩ := h
    simpa using RpL.get (i := i) h2 (by simpa using e)
theorem RpL.getR : ∀ {ds : List D} {vs : List V} {i : Nat} {v : V}, RpL p O H ds vs → vs[i]? = some v → ∃ d, ds[i]? = some d ∧ Rp p O H d v
  | [], _, _, _, h, e => by cases h; simp at e
  | d :: ds, _, 0, _, h, e => by
    obtain ⟨x, xs, rfl, h1, h2⟩ := h
    simp at e; subst e
    exact ⟨d, rfl, h1⟩
  | d :: ds, _, i + 1, _, h, e => by
    obtain ⟨x, xs, rfl, h1, h2⟩ := h
    simpa using RpL.getR (i := i) h2 (by simpa using e)
theorem RpL.take : ∀ (k : Nat) {ds : List D} {vs : List V}, RpL p O H ds vs → RpL p O H (ds.take k) (vs.take k)
  | 0, _, _, _ => by simp [RpL]
  | k + 1, [], _, h => by cases h; simp [RpL]
  | k + 1, d :: ds, _, h => by
    obtain ⟨x, xs, rfl, h1, h2⟩ := h
    exact .cons h1 (RpL.take k h2)
theorem RpL.drop : ∀ (k : Nat) {ds : List D} {vs : List V}, RpL p O H ds vs → RpL p O H (ds.drop k) (vs.drop k)
  | 0, _, _, h => by simpa using h
  | k + 1, [], _, h => by cases h; simp [RpL]
  | k + 1, d :: ds, _, h => by
    obtain ⟨x, xs, rfl, h1, h2⟩ := h
    exact RpL.drop k h2
theorem RpL.set {d : D} {v : V} (hv : Rp p O H d v) : ∀ (k : Nat) {ds : List D} {vs : List V}, RpL p O H ds vs → RpL p O H (ds.set k d) (vs.set k v)
  | _, [], _, h => by cases h; simp [RpL]
  | 0, e :: ds, _, h => by
    obtain ⟨x, xs, rfl, h1, h2⟩ := h
    exact .cons hv h2
  | k + 1, e :: ds, _, h => by
    obtain ⟨x, xs, rfl, h1, h2⟩ := h
    exact .cons h1 (RpL.set hv k h2)
theorem RpL.erase : ∀ (k : Nat) {ds : List D} {vs : List V}, RpL p O H ds vs → RpL p O H (ds.eraseIdx k) (vs.eraseIdx k)
  | _, [], _, h => by cases h; simp [RpL]
  | 0, e :: ds, _, h => by
    obtain ⟨x, xs, rfl, h1, h2⟩ := h
    exact h2
  | k + 1, e :: ds, _, h => by
    obtain ⟨x, xs, rfl, h1, h2⟩ := h
    exact .cons h1 (RpL.erase k h2)
theorem RpL.mapI : ∀ {ns : List Int} {vs : List V}, RpL p O H (ns.map D.int) vs → vs = ns.map V.int
  | [], _, h => h
  | n :: ns, _, h => by
    obtain ⟨x, xs, rfl, h1, h2⟩ := h
    rw [RpL.mapI h2, show x = V.int n from h1]; rfl
theorem RpL.mapS : ∀ {ns : List Str} {vs : List V}, RpL p O H (ns.map D.str) vs → vs = ns.map V.str
  | [], _, h => h
  | n :: ns, _, h => by
    obtain ⟨x, xs, rfl, h1, h2⟩ := h
    rw [RpL.mapS h2, show x = V.str n from h1]; rfl
theorem RpL.mapB : ∀ {ns : List Bool} {vs : List V}, RpL p O H (ns.map D.bl) vs → vs = ns.map V.bl
  | [], _, h => h
  | n :: ns, _, h => by
    obtain ⟨x, xs, rfl, h1, h2⟩ := h
    rw [RpL.mapB h2, show x = V.bl n from h1]; rfl
theorem RpL.ofI : ∀ (ns : List Int), RpL p O H (ns.map D.int) (ns.map V.int)
  | [] => rfl
  | n :: ns => .cons rfl (RpL.ofI ns)
theorem RpL.ofS : ∀ (ns : List Str), RpL p O H (ns.map D.str) (ns.map V.str)
  | [] => rfl
  | n :: ns => .cons rfl (RpL.ofS ns)
theorem RpL.ofB : ∀ (ns : List Bool), RpL p O H (ns.map D.bl) (ns.map V.bl)
  | [] => rfl
  | n :: ns => .cons rfl (RpL.ofB ns)
end

inductive Slot where
  | un | val (d : D)
  /-- held by this name alone: a list, an instance, a dict that may be changed -/
  | own (d : D)

abbrev Sl := List Slot
def Own (O0 : Addr → Prop) (σ : St) (ρ : Sl) (a : Addr) : Prop := O0 a ∨ ∃ (i : Nat) (d : D), ρ[i]? = some (Slot.own d) ∧ σ[i]? = some (some (V.ref a))

/-- the object at a, as d, whoever owns it -/
def OwnAt (p : Par) (O : Addr → Prop) (H : Hp) (a : Addr) : D → Prop
  | .lst ds => ∃ vs, H a = some (.lst vs) ∧ RpL p O H ds vs
  | .dic ks ds => ∃ xs, H a = some (.dK xs) ∧ xs.map (·.1) = ks ∧ RpL p O H ds (xs.map (·.2))
  | .obj c ns ds => ∃ C dx xs, H a = some (.ins C dx xs) ∧ p.cls c = some C ∧ xs.map (·.1) = ns.map Str.ofString ∧ RpL p O H ds (xs.map (·.2))
  | _ => False
def isOwn : Slot → Bool
  | .own _ => true
  | _ => false

/-- the slots hold what they hold; what was there at the entry (O0, H0) is kept but for the special addresses -/
structure StR (p : Par) (O0 : Addr → Prop) (H0 : Hp) (σ : St) (H : Hp) (ρ : Sl) (n : Nat) : Prop where
  len : σ.length = ρ.length
  val : ∀ (i : Nat) (d : D), ρ[i]? = some (Slot.val d) → ∃ v, σ[i]? = some (some v) ∧ Rp p (Own O0 σ ρ) H d v
  own : ∀ (i : Nat) (d : D), ρ[i]? = some (Slot.own d) → ∃ a, σ[i]? = some (some (V.ref a)) ∧ OwnAt p (Own O0 σ ρ) H a d ∧ ¬ O0 a ∧ H0 a = none
  sep : ∀ (i j : Nat) (d e : D) (a : Addr), ρ[i]? = some (Slot.own d) → ρ[j]? = some (Slot.own e) → σ[i]? = some (some (V.ref a)) → σ[j]? = some (some (V.ref a)) → i = j
  keep : ∀ a o, ¬ p.dk a → H0 a = some o → H a = some o
  o0 : ∀ a, O0 a → ∃ o, H a = some o
  dk : ∀ a, p.dk a → O0 a
  at_ : p.At n H
end DL
end
section
namespace DL
open PySem L2

section
variable {p : Par} {O0 : Addr → Prop} {H0 H H' : Hp} {σ : St} {ρ : Sl} {n m : Nat}

structure Ext (p : Par) (O0 : Addr → Prop) (O : Addr → Prop) (H : Hp) (O' : Addr → Prop) (H' : Hp) : Prop where
  gr : Gr O H O' H'
  kp : ∀ a o, O0 a → ¬ p.dk a → H a = some o → H' a = some o
theorem Ext.refl {O} : Ext p O0 O H O H := ⟨Gr.refl, fun _ _ _ _ e => e⟩
theorem Ext.trans {O H O1 H1 O2 H2} (a : Ext p O0 O H O1 H1) (b : Ext p O0 O1 H1 O2 H2) : Ext p O0 O H O2 H2 :=
  ⟨a.gr.trans b.gr, fun x o h d e => b.kp x o h d (a.kp x o h d e)⟩

theorem OwnAt.gr {O O' : Addr → Prop} {a : Addr} {d : D} (g : Gr O H O' H') (k : ∀ o, H a = some o → H' a = some o) (h : OwnAt p O H a d) : OwnAt p O' H' a d := by
  cases d with
  | lst ds => obtain ⟨vs, e, r⟩ := h; exact ⟨vs, k _ e, RpL.gr g ds vs r⟩
  | dic ks ds => obtain ⟨vs, e, e2, r⟩ := h; exact ⟨vs, k _ e, e2, RpL.gr g ds _ r⟩
  | obj c ns ds => obtain ⟨C, dx, vs, e, e1, e2, r⟩ := h; exact ⟨C, dx, vs, k _ e, e1, e2, RpL.gr g ds _ r⟩
  | non => exact h.elim
  | bl _ => exact h.elim
  | int _ => exact h.elim
  | str _ => exact h.elim
  | tup _ => exact h.elim
  | ext _ => exact h.elim
  | ty _ => exact h.elim
  | cls _ => exact h.elim
theorem OwnAt.here {O : Addr → Prop} {a : Addr} {d : D} (h : OwnAt p O H a d) : ∃ o, H a = some o := by
  cases d with
  | lst ds => obtain ⟨vs, e, r⟩ := h; exact ⟨_, e⟩
  | dic ks ds => obtain ⟨vs, e, r⟩ := h; exact ⟨_, e⟩
  | obj c ns ds => obtain ⟨C, dx, vs, e, r⟩ := h; exact ⟨_, e⟩
  | non => exact h.elim
  | bl _ => exact h.elim
  | int _ => exact h.elim
  | str _ => exact h.elim
  | tup _ => exact h.elim
  | ext _ => exact h.elim
  | ty _ => exact h.elim
  | cls _ => exact h.elim
/-- let go -/
theorem OwnAt.rp {O : Addr → Prop} {a : Addr} {d : D} (h : OwnAt p O H a d) (hn : ¬ O a) : Rp p O H d (.ref a) := by
  cases d with
  | lst ds => obtain ⟨vs, e, r⟩ := h; exact ⟨a, vs, rfl, hn, e, r⟩
  | dic ks ds => obtain ⟨vs, e, e2, r⟩ := h; exact ⟨a, vs, rfl, hn, e, e2, r⟩
  | obj c ns ds => obtain ⟨C, dx, vs, e, e1, e2, r⟩ := h; exact ⟨a, C, dx, vs, rfl, hn, e, e1, e2, r⟩
  | non => exact h.elim
  | bl _ => exact h.elim
  | int _ => exact h.elim
  | str _ => exact h.elim
  | tup _ => exact h.elim
  | ext _ => exact h.elim
  | ty _ => exact h.elim
  | cls _ => exact h.elim

theorem StR.there (s : StR p O0 H0 σ H ρ n) {a : Addr} (h : Own O0 σ ρ a) : ∃ o, H a = some o := by
  rcases h with h | ⟨i, d, e1, e2⟩
  · exact s.o0 a h
  · obtain ⟨b, e3, q, _⟩ := s.own i d e1
    rw [e2] at e3; cases e3
    exact q.here
theorem StR.notOwn (s : StR p O0 H0 σ H ρ n) {a : Addr} (h : H a = none) : ¬ Own O0 σ ρ a := fun q => by
  obtain ⟨o, e⟩ := s.there q
  rw [h] at e; cases e
/-- a heap in which all of ours stands as it was, the special addresses as At says -/
theorem StR.move (s : StR p O0 H0 σ H ρ n) (k : ∀ a o, ¬ p.dk a → H a = some o → H' a = some o) (at' : p.At m H') : StR p O0 H0 σ H' ρ m := by
  have g : Gr (Own O0 σ ρ) H (Own O0 σ ρ) H' := fun a o no e => ⟨no, k a o (fun d => no (.inl (s.dk a d))) e⟩
  refine ⟨s.len, fun i d e => ?_, fun i d e => ?_, s.sep, fun a o nd e => k a o nd (s.keep a o nd e), fun a h => ?_, s.dk, at'⟩
  · obtain ⟨v, e1, r⟩ := s.val i d e
    exact ⟨v, e1, Rp.gr g d v r⟩
  · obtain ⟨a, e1, q, n1, n2⟩ := s.own i d e
    exact ⟨a, e1, q.gr g (fun o eo => k a o (fun dd => n1 (s.dk a dd)) eo), n1, n2⟩
  · by_cases hd : p.dk a
    · exact p.there m H' a at' hd
    · obtain ⟨o, e⟩ := s.o0 a h
      exact ⟨o, k a o hd e⟩
theorem StR.ext (s : StR p O0 H0 σ H ρ n) (k : ∀ a o, ¬ p.dk a → H a = some o → H' a = some o) : Ext p O0 (Own O0 σ ρ) H (Own O0 σ ρ) H' :=
  ⟨fun a o no e => ⟨no, k a o (fun d => no (.inl (s.dk a d))) e⟩, fun a o _ nd e => k a o nd e⟩
/-- all is kept -/
theorem StR.grow (s : StR p O0 H0 σ H ρ n) (k : ∀ a o, H a = some o → H' a = some o) : StR p O0 H0 σ H' ρ n :=
  s.move (fun a o _ e => k a o e) (p.keep n H H' (fun a o _ e => k a o e) s.at_)
theorem keep_new {q : Addr} {o : HO} (h : H q = none) : ∀ a u, H a = some u → upd H q o a = some u := fun a u e => by
  rw [upd_ne (ne_of_none e h)]; exact e
theorem StR.alloc {q : Addr} {o : HO} (s : StR p O0 H0 σ H ρ n) (h : H q = none) : StR p O0 H0 σ (upd H q o) ρ n := s.grow (keep_new h)
theorem StR.extA {q : Addr} {o : HO} (s : StR p O0 H0 σ H ρ n) (h : H q = none) : Ext p O0 (Own O0 σ ρ) H (Own O0 σ ρ) (upd H q o) := s.ext fun a u _ e => keep_new h a u e

/-- one more address to keep off -/
def And1 (O : Addr → Prop) (q : Addr) : Addr → Prop := fun a => O a ∨ a = q
theorem own_and1 {q a : Addr} : Own (And1 O0 q) σ ρ a ↔ Own O0 σ ρ a ∨ a = q := by
  unfold Own And1
  constructor
  · rintro ((h | h) | h)
    · exact .inl (.inl h)
    · exact .inr h
    · exact .inl (.inr h)
  · rintro ((h | h) | h)
    · exact .inl (.inl h)
    · exact .inr h
    · exact .inl (.inr h)
theorem StR.fresh {q : Addr} {o : HO} (s : StR p O0 H0 σ H ρ n) (h : H q = none) : StR p (And1 O0 q) H0 σ (upd H q o) ρ n := by
  have s' := s.alloc (o := o) h
  have g : Gr (Own O0 σ ρ) H (Own (And1 O0 q) σ ρ) (upd H q o) := fun a u no e => by
    have ne : a ≠ q := ne_of_none e h
    exact ⟨fun z => (own_and1.mp z).elim no ne, keep_new h a u e⟩
  refine ⟨s.len, fun i d e => ?_, fun i d e => ?_, s.sep, s'.keep, fun a z => ?_, fun a d => .inl (s.dk a d), s'.at_⟩
  · obtain ⟨v, e1, r⟩ := s.val i d e
    exact ⟨v, e1, Rp.gr g d v r⟩
  · obtain ⟨a, e1, w, n1, n2⟩ := s.own i d e
    refine ⟨a, e1, w.gr g fun u eu => keep_new h a u eu, fun z => ?_, n2⟩
    rcases z with z | z
    · exact n1 z
    · obtain ⟨u, eu⟩ := w.here
      exact ne_of_none eu h z
  · rcases z with z | z
    · exact s'.o0 a z
    · subst z; exact ⟨o, upd_same⟩
theorem StR.extF {q : Addr} {o : HO} (s : StR p O0 H0 σ H ρ n) (h : H q = none) : Ext p O0 (Own O0 σ ρ) H (Own (And1 O0 q) σ ρ) (upd H q o) :=
  ⟨fun a u no e => ⟨fun z => (own_and1.mp z).elim no (ne_of_none e h), keep_new h a u e⟩, fun a u _ _ e => keep_new h a u e⟩
theorem StR.h0 (s : StR p O0 H0 σ H ρ n) {q : Addr} (h : H q = none) : H0 q = none := by
  cases e : H0 q with
  | none => rfl
  | some o =>
    by_cases hd : p.dk q
    · obtain ⟨u, eu⟩ := p.there n H q s.at_ hd
      rw [h] at eu; cases eu
    · have := s.keep q o hd e
      rw [h] at this; cases this
/-- fewer addresses to keep off -/
theorem StR.narrow {q : Addr} (s : StR p (And1 O0 q) H0 σ H ρ n) (hd : ∀ a, p.dk a → O0 a) : StR p O0 H0 σ H ρ n := by
  have g : Gr (Own (And1 O0 q) σ ρ) H (Own O0 σ ρ) H := fun a o no e => ⟨fun z => no (own_and1.mpr (.inl z)), e⟩
  refine ⟨s.len, fun i d e => ?_, fun i d e => ?_, s.sep, s.keep, fun a z => s.o0 a (.inl z), hd, s.at_⟩
  · obtain ⟨v, e1, r⟩ := s.val i d e
    exact ⟨v, e1, Rp.gr g d v r⟩
  · obtain ⟨a, e1, w, n1, n2⟩ := s.own i d e
    exact ⟨a, e1, w.gr g fun _ e => e, fun z => n1 (.inl z), n2⟩
theorem gr_narrow {q : Addr} : Gr (Own (And1 O0 q) σ ρ) H (Own O0 σ ρ) H := fun a o no e => ⟨fun z => no (own_and1.mpr (.inl z)), e⟩
theorem StR.own_and1_free {q : Addr} (s : StR p (And1 O0 q) H0 σ H ρ n) (h0 : ¬ O0 q) : ¬ Own O0 σ ρ q := fun z => by
  rcases z with z | ⟨i, d, e1, e2⟩
  · exact h0 z
  · obtain ⟨a, e3, w, n1, _⟩ := s.own i d e1
    rw [e2] at e3; cases e3
    exact n1 (.inr rfl)

theorem own_set_sub {i : Nat} {d : D} {v : V} {a : Addr} (h : Own O0 (σ.set i (some v)) (ρ.set i (.val d)) a) : Own O0 σ ρ a := by
  rcases h with h | ⟨j, e, h1, h2⟩
  · exact .inl h
  · by_cases q : i = j
    · subst q
      rw [List.getElem?_set, if_pos rfl] at h1
      split at h1 <;> cases h1
    · rw [List.getElem?_set_ne q] at h1 h2
      exact .inr ⟨j, e, h1, h2⟩
theorem gr_set {i : Nat} {d : D} {v : V} : Gr (Own O0 σ ρ) H (Own O0 (σ.set i (some v)) (ρ.set i (.val d))) H := fun _ _ no e => ⟨fun z => no (own_set_sub z), e⟩
theorem StR.setV {i : Nat} {d : D} {v : V} (s : StR p O0 H0 σ H ρ n) (r : Rp p (Own O0 σ ρ) H d v) (hi : i < ρ.length) : StR p O0 H0 (σ.set i (some v)) H (ρ.set i (.val d)) n := by
  have g := @gr_set O0 H σ ρ i d v
  refine ⟨by simp [s.len], fun j e h => ?_, fun j e h => ?_, fun j k e f a h1 h2 h3 h4 => ?_, s.keep, s.o0, s.dk, s.at_⟩
  · by_cases q : i = j
    · subst q
      rw [List.getElem?_set_self hi] at h; cases h
      exact ⟨v, List.getElem?_set_self (by rw [s.len]; exact hi), Rp.gr g d v r⟩
    · rw [List.getElem?_set_ne q] at h
      obtain ⟨x, e1, rx⟩ := s.val j e h
      exact ⟨x, by rw [List.getElem?_set_ne q]; exact e1, Rp.gr g e x rx⟩
  · by_cases q : i = j
    · subst q
      rw [List.getElem?_set_self hi] at h; cases h
    · rw [List.getElem?_set_ne q] at h
      obtain ⟨a, e1, w, n1, n2⟩ := s.own j e h
      exact ⟨a, by rw [List.getElem?_set_ne q]; exact e1, w.gr g fun _ e => e, n1, n2⟩
  · by_cases q : i = j
    · subst q
      rw [List.getElem?_set_self hi] at h1; cases h1
    · by_cases q2 : i = k
      · subst q2
        rw [List.getElem?_set_self hi] at h2; cases h2
      · rw [List.getElem?_set_ne q] at h1 h3
        rw [List.getElem?_set_ne q2] at h2 h4
        exact s.sep j k e f a h1 h2 h3 h4
/-- a fresh object is held by a name -/
theorem StR.setO {i : Nat} {d : D} {q : Addr} (s : StR p (And1 O0 q) H0 σ H ρ n) (w : OwnAt p (Own (And1 O0 q) σ ρ) H q d) (h0 : H0 q = none) (n0 : ¬ O0 q) (hd : ∀ a, p.dk a → O0 a) (hi : i < ρ.length) :
    StR p O0 H0 (σ.set i (some (.ref q))) H (ρ.set i (.own d)) n := by
  have sub : ∀ a, Own O0 (σ.set i (some (.ref q))) (ρ.set i (.own d)) a → Own (And1 O0 q) σ ρ a := fun a z => by
    rcases z with z | ⟨j, e, h1, h2⟩
    · exact .inl (.inl z)
    · by_cases c : i = j
      · subst c
        rw [List.getElem?_set_self (by rw [s.len]; exact hi)] at h2
        cases h2
        exact .inl (.inr rfl)
      · rw [List.getElem?_set_ne c] at h1 h2
        exact .inr ⟨j, e, h1, h2⟩
  have g : Gr (Own (And1 O0 q) σ ρ) H (Own O0 (σ.set i (some (.ref q))) (ρ.set i (.own d))) H := fun a o no e => ⟨fun z => no (sub a z), e⟩
  have ne : ∀ j e, ρ[j]? = some (Slot.own e) → σ[j]? = some (some (V.ref q)) → False := fun j e h1 h2 => by
    obtain ⟨a, e1, _, n1, _⟩ := s.own j e h1
    rw [h2] at e1; cases e1
    exact n1 (.inr rfl)
  refine ⟨by simp [s.len], fun j e h => ?_, fun j e h => ?_, fun j k e f a h1 h2 h3 h4 => ?_, s.keep, fun a z => s.o0 a (.inl z), hd, s.at_⟩
  · by_cases c : i = j
    · subst c
      rw [List.getElem?_set_self hi] at h; cases h
    · rw [List.getElem?_set_ne c] at h
      obtain ⟨x, e1, rx⟩ := s.val j e h
      exact ⟨x, by rw [List.getElem?_set_ne c]; exact e1, Rp.gr g e x rx⟩
  · by_cases c : i = j
    · subst c
      rw [List.getElem?_set_self hi] at h; cases h
      exact ⟨q, List.getElem?_set_self (by rw [s.len]; exact hi), w.gr g fun _ e => e, n0, h0⟩
    · rw [List.getElem?_set_ne c] at h
      obtain ⟨a, e1, w', n1, n2⟩ := s.own j e h
      exact ⟨a, by rw [List.getElem?_set_ne c]; exact e1, w'.gr g fun _ e => e, fun z => n1 (.inl z), n2⟩
  · by_cases c : i = j
    · subst c
      by_cases c2 : i = k
      · exact c2
      · rw [List.getElem?_set_self (by rw [s.len]; exact hi)] at h3
        cases h3
        rw [List.getElem?_set_ne c2] at h2 h4
        exact (ne k f h2 h4).elim
    · rw [List.getElem?_set_ne c] at h1 h3
      by_cases c2 : i = k
      · subst c2
        rw [List.getElem?_set_self (by rw [s.len]; exact hi)] at h4
        cases h4
        exact (ne j e h1 h3).elim
      · rw [List.getElem?_set_ne c2] at h2 h4
        exact s.sep j k e f a h1 h2 h3 h4
/-- a name lets its object go -/
theorem StR.letgo {i : Nat} {d : D} (s : StR p O0 H0 σ H ρ n) (h : ρ[i]? = some (Slot.own d)) :
    ∃ a, σ[i]? = some (some (V.ref a)) ∧ StR p O0 H0 σ H (ρ.set i (.val d)) n ∧ Rp p (Own O0 σ (ρ.set i (.val d))) H d (.ref a) ∧ Ext p O0 (Own O0 σ ρ) H (Own O0 σ (ρ.set i (.val d))) H := by
  obtain ⟨a, e1, w, n1, n2⟩ := s.own i d h
  have hi : i < ρ.length := (List.getElem?_eq_some_iff.mp h).1
  have es : σ.set i (some (.ref a)) = σ := by
    apply List.ext_getElem?
    intro j
    by_cases c : i = j
    · subst c
      rw [List.getElem?_set_self (by rw [s.len]; exact hi), e1]
    · rw [List.getElem?_set_ne c]
  have sub : ∀ b, Own O0 σ (ρ.set i (.val d)) b → Own O0 σ ρ b := fun b z => by
    rcases z with z | ⟨j, e, h1, h2⟩
    · exact .inl z
    · by_cases c : i = j
      · subst c
        rw [List.getElem?_set_self hi] at h1; cases h1
      · rw [List.getElem?_set_ne c] at h1
        exact .inr ⟨j, e, h1, h2⟩
  have na : ¬ Own O0 σ (ρ.set i (.val d)) a := fun z => by
    rcases z with z | ⟨j, e, h1, h2⟩
    · exact n1 z
    · by_cases c : i = j
      · subst c
        rw [List.getElem?_set_self hi] at h1; cases h1
      · rw [List.getElem?_set_ne c] at h1
        exact c (s.sep i j d e a h h1 e1 h2)
  have g : Gr (Own O0 σ ρ) H (Own O0 σ (ρ.set i (.val d))) H := fun b o no e => ⟨fun z => no (sub b z), e⟩
  have r : Rp p (Own O0 σ (ρ.set i (.val d))) H d (.ref a) := (w.gr g fun _ e => e).rp na
  refine ⟨a, e1, ⟨by simp [s.len], fun j e hj => ?_, fun j e hj => ?_, fun j k e f b h1 h2 h3 h4 => ?_, s.keep, s.o0, s.dk, s.at_⟩, r, ⟨g, fun _ _ _ _ e => e⟩⟩
  · by_cases c : i = j
    · subst c
      rw [List.getElem?_set_self hi] at hj; cases hj
      exact ⟨_, e1, r⟩
    · rw [List.getElem?_set_ne c] at hj
      obtain ⟨x, e2, rx⟩ := s.val j e hj
      exact ⟨x, e2, Rp.gr g e x rx⟩
  · by_cases c : i = j
    · subst c
      rw [List.getElem?_set_self hi] at hj; cases hj
    · rw [List.getElem?_set_ne c] at hj
      obtain ⟨b, e2, w', m1, m2⟩ := s.own j e hj
      exact ⟨b, e2, w'.gr g fun _ e => e, m1, m2⟩
  · by_cases c : i = j
    · subst c
      rw [List.getElem?_set_self hi] at h1; cases h1
    · by_cases c2 : i = k
      · subst c2
        rw [List.getElem?_set_self hi] at h2; cases h2
      · rw [List.getElem?_set_ne c] at h1
        rw [List.getElem?_set_ne c2] at h2
        exact s.sep j k e f b h1 h2 h3 h4
/-- the object that a name holds is changed -/
theorem StR.change {i : Nat} {d d' : D} {a : Addr} {o : HO} (s : StR p O0 H0 σ H ρ n) (h : ρ[i]? = some (Slot.own d)) (ha : σ[i]? = some (some (V.ref a)))
    (w : ∀ O' H', Gr (Own O0 σ ρ) H O' H' → H' a = some o → OwnAt p O' H' a d') :
    StR p O0 H0 σ (upd H a o) (ρ.set i (.own d')) n ∧ Ext p O0 (Own O0 σ ρ) H (Own O0 σ (ρ.set i (.own d'))) (upd H a o) := by
  obtain ⟨b, e1, w0, n1, n2⟩ := s.own i d h
  rw [ha] at e1; cases e1
  have hi : i < ρ.length := (List.getElem?_eq_some_iff.mp h).1
  have oa : Own O0 σ ρ a := .inr ⟨i, d, h, ha⟩
  have sub : ∀ b, Own O0 σ (ρ.set i (.own d')) b → Own O0 σ ρ b := fun b z => by
    rcases z with z | ⟨j, e, h1, h2⟩
    · exact .inl z
    · by_cases c : i = j
      · subst c
        exact .inr ⟨i, d, h, h2⟩
      · rw [List.getElem?_set_ne c] at h1
        exact .inr ⟨j, e, h1, h2⟩
  have kn : ∀ b u, b ≠ a → H b = some u → upd H a o b = some u := fun b u ne e => by rw [upd_ne ne]; exact e
  have g : Gr (Own O0 σ ρ) H (Own O0 σ (ρ.set i (.own d'))) (upd H a o) := fun b u no e => ⟨fun z => no (sub b z), kn b u (fun q => no (q ▸ oa)) e⟩
  have nd : ∀ b, p.dk b → b ≠ a := fun b hb q => n1 (q ▸ s.dk b hb)
  refine ⟨⟨by simp [s.len], fun j e hj => ?_, fun j e hj => ?_, fun j k e f b h1 h2 h3 h4 => ?_, fun b u hb e => ?_, fun b z => ?_, s.dk, p.keep n H _ (fun b u hb e => kn b u (nd b hb) e) s.at_⟩, g, fun b u hb _ e => kn b u (fun q => n1 (q ▸ hb)) e⟩
  · by_cases c : i = j
    · subst c
      rw [List.getElem?_set_self hi] at hj; cases hj
    · rw [List.getElem?_set_ne c] at hj
      obtain ⟨x, e2, rx⟩ := s.val j e hj
      exact ⟨x, e2, Rp.gr g e x rx⟩
  · by_cases c : i = j
    · subst c
      rw [List.getElem?_set_self hi] at hj; cases hj
      exact ⟨a, ha, w _ _ g upd_same, n1, n2⟩
    · rw [List.getElem?_set_ne c] at hj
      obtain ⟨b, e2, w', m1, m2⟩ := s.own j e hj
      refine ⟨b, e2, w'.gr g (fun u eu => kn b u (fun q => ?_) eu), m1, m2⟩
      subst q
      exact c (s.sep i j d e b h hj ha e2)
  · by_cases c : i = j
    · subst c
      by_cases c2 : i = k
      · exact c2
      · rw [List.getElem?_set_ne c2] at h2
        exact s.sep i k d f b h h2 h3 h4
    · rw [List.getElem?_set_ne c] at h1
      by_cases c2 : i = k
      · subst c2
        exact s.sep j i e d b h1 h h3 h4
      · rw [List.getElem?_set_ne c2] at h2
        exact s.sep j k e f b h1 h2 h3 h4
  · exact kn b u (fun q => by subst q; rw [n2] at e; cases e) (s.keep b u hb e)
  · obtain ⟨u, e⟩ := s.o0 b z
    exact ⟨u, kn b u (fun q => n1 (q ▸ z)) e⟩
end
end DL
end
section
namespace DL
open PySem L2

abbrev WQ := D → Sl → Nat → Prop
abbrev WE := Sl → Nat → WQ → Prop
abbrev WT := Sl → Nat → (Bool → Sl → Nat → Prop) → Prop
abbrev WA := Sl → Nat → (List D → Sl → Nat → Prop) → Prop

def SimE (p : Par) (t : TE) (w : WE) : Prop := ∀ (O0 : Addr → Prop) (H0 : Hp) (σ : St) (H : Hp) (ρ : Sl) (n : Nat) (Q : WQ) (QV : VK), StR p O0 H0 σ H ρ n → w ρ n Q →
  (∀ d ρ' n' v H', Q d ρ' n' → StR p O0 H0 σ H' ρ' n' → Rp p (Own O0 σ ρ') H' d v → Ext p O0 (Own O0 σ ρ) H (Own O0 σ ρ') H' → QV v H') → t σ H QV
def SimT (p : Par) (t : TT) (w : WT) : Prop := ∀ (O0 : Addr → Prop) (H0 : Hp) (σ : St) (H : Hp) (ρ : Sl) (n : Nat) (Q : Bool → Sl → Nat → Prop) (QV : Bool → Hp → Prop), StR p O0 H0 σ H ρ n → w ρ n Q →
  (∀ b ρ' n' H', Q b ρ' n' → StR p O0 H0 σ H' ρ' n' → Ext p O0 (Own O0 σ ρ) H (Own O0 σ ρ') H' → QV b H') → t σ H QV
def SimA (p : Par) (t : TA) (w : WA) : Prop := ∀ (O0 : Addr → Prop) (H0 : Hp) (σ : St) (H : Hp) (ρ : Sl) (n : Nat) (Q : List D → Sl → Nat → Prop) (QV : List V → Hp → Prop), StR p O0 H0 σ H ρ n → w ρ n Q →
  (∀ ds ρ' n' vs H', Q ds ρ' n' → StR p O0 H0 σ H' ρ' n' → RpL p (Own O0 σ ρ') H' ds vs → Ext p O0 (Own O0 σ ρ) H (Own O0 σ ρ') H' → QV vs H') → t σ H QV
/-- a new list, held by nobody -/
def SimF (p : Par) (t : TE) (w : WE) : Prop := ∀ (O0 : Addr → Prop) (H0 : Hp) (σ : St) (H : Hp) (ρ : Sl) (n : Nat) (Q : WQ) (QV : VK), StR p O0 H0 σ H ρ n → w ρ n Q →
  (∀ d ρ' n' a H', Q d ρ' n' → StR p (And1 O0 a) H0 σ H' ρ' n' → OwnAt p (Own (And1 O0 a) σ ρ') H' a d → H0 a = none → ¬ O0 a → Ext p O0 (Own O0 σ ρ) H (Own (And1 O0 a) σ ρ') H' → QV (.ref a) H') → t σ H QV

structure PD (p : Par) (X : Cx) (e : Expr) (t : TE) (w : WE) : Prop where
  pe : PE X e t
  sim : SimE p t w
structure PDF (p : Par) (X : Cx) (e : Expr) (t : TE) (w : WE) : Prop where
  pe : PE X e t
  sim : SimF p t w
structure PDT (p : Par) (X : Cx) (e : Expr) (t : TT) (w : WT) : Prop where
  pt : PT X e t
  sim : SimT p t w
structure PDA (p : Par) (X : Cx) (es : List Expr) (t : TA) (w : WA) : Prop where
  pa : PA X es t
  sim : SimA p t w

theorem SimF.sim {p : Par} {t : TE} {w : WE} (h : SimF p t w) : SimE p t w := by
  intro O0 H0 σ H ρ n Q QV S hw k
  refine h O0 H0 σ H ρ n Q QV S hw fun d ρ' n' a H' q S' w' h0 n0 x => ?_
  have nn := S'.own_and1_free n0
  refine k d ρ' n' _ H' q (S'.narrow S.dk) ((w'.gr gr_narrow fun _ e => e).rp nn) ⟨fun b o no e => ?_, x.kp⟩
  obtain ⟨h1, h2⟩ := x.gr b o no e
  exact ⟨fun z => h1 (own_and1.mpr (.inl z)), h2⟩
theorem PDF.pd {p : Par} {X : Cx} {e : Expr} {t : TE} {w : WE} (h : PDF p X e t w) : PD p X e t w := ⟨h.pe, h.sim.sim⟩

def opt {α : Type} : Option α → (α → Prop) → Prop
  | some d, Q => Q d
  | none, _ => False
@[simp] theorem opt_some {α : Type} (d : α) (Q : α → Prop) : opt (some d) Q = Q d := rfl
@[simp] theorem opt_none {α : Type} (Q : α → Prop) : opt none Q = False := rfl
theorem opt_get {α : Type} {o : Option α} {Q : α → Prop} (h : opt o Q) : ∃ d, o = some d ∧ Q d := by
  cases o with
  | none => exact h.elim
  | some d => exact ⟨d, rfl, h⟩

/-- an operation on two values, as g says of the data -/
def Op2 (p : Par) (r : R2) (g : D → D → Option D) : Prop := ∀ (O0 : Addr → Prop) (H0 : Hp) (σ : St) (H : Hp) (ρ : Sl) (n : Nat) (x y : V) (a b d : D) (QV : VK), StR p O0 H0 σ H ρ n →
  Rp p (Own O0 σ ρ) H a x → Rp p (Own O0 σ ρ) H b y → g a b = some d →
  (∀ v H', StR p O0 H0 σ H' ρ n → Rp p (Own O0 σ ρ) H' d v → Ext p O0 (Own O0 σ ρ) H (Own O0 σ ρ) H' → QV v H') → r x y H QV
def Op1 (p : Par) (r : V → Hp → VK → Prop) (g : D → Option D) : Prop := ∀ (O0 : Addr → Prop) (H0 : Hp) (σ : St) (H : Hp) (ρ : Sl) (n : Nat) (x : V) (a d : D) (QV : VK), StR p O0 H0 σ H ρ n →
  Rp p (Own O0 σ ρ) H a x → g a = some d →
  (∀ v H', StR p O0 H0 σ H' ρ n → Rp p (Own O0 σ ρ) H' d v → Ext p O0 (Own O0 σ ρ) H (Own O0 σ ρ) H' → QV v H') → r x H QV
def OpC (p : Par) (r : List V → Hp → VK → Prop) (g : List D → Option D) : Prop := ∀ (O0 : Addr → Prop) (H0 : Hp) (σ : St) (H : Hp) (ρ : Sl) (n : Nat) (xs : List V) (as : List D) (d : D) (QV : VK), StR p O0 H0 σ H ρ n →
  RpL p (Own O0 σ ρ) H as xs → g as = some d →
  (∀ v H', StR p O0 H0 σ H' ρ n → Rp p (Own O0 σ ρ) H' d v → Ext p O0 (Own O0 σ ρ) H (Own O0 σ ρ) H' → QV v H') → r xs H QV
/-- a call that makes a new list -/
def OpF (p : Par) (r : List V → Hp → VK → Prop) (g : List D → Option (List D)) : Prop := ∀ (O0 : Addr → Prop) (H0 : Hp) (σ : St) (H : Hp) (ρ : Sl) (n : Nat) (xs : List V) (as : List D) (ds : List D) (QV : VK), StR p O0 H0 σ H ρ n →
  RpL p (Own O0 σ ρ) H as xs → g as = some ds → (∀ a vs, H a = none → RpL p (Own O0 σ ρ) H ds vs → QV (.ref a) (upd H a (.lst vs))) → r xs H QV

section
variable {p : Par} {X : Cx} {a b c e : Expr} {ta tb tc te : TE} {wa wb wc we : WE} {pos : Pos}

def wVar (i : Nat) : WE := fun ρ n Q => match ρ[i]? with
  | some (.val d) => Q d ρ n
  | some (.own d) => Q d (ρ.set i (.val d)) n
  | _ => False
def wC (d : D) : WE := fun ρ n Q => Q d ρ n
theorem sim_var (i : Nat) : SimE p (tVar i) (wVar i) := by
  intro O0 H0 σ H ρ n Q QV S hw k
  unfold wVar at hw
  split at hw
  · rename_i d e
    obtain ⟨v, e1, r⟩ := S.val i d e
    exact ⟨v, e1, k d ρ n v H hw S r Ext.refl⟩
  · rename_i d e
    obtain ⟨q, e1, S', r, x⟩ := S.letgo e
    exact ⟨_, e1, k d _ n _ H hw S' r x⟩
  · exact hw.elim
theorem pd_v (i : Nat) {x : Str} (hN : X.N[i]? = some x := by rfl) (hv : Vis X.env.scope x := by first | exact Or.inl rfl | exact Or.inr (Or.inl rfl) | exact Or.inr (Or.inr rfl)) (hd : (x == ("__debug__" : Str)) = false := by decide)
    (hcd : (x == ("__classdict__" : Str)) = false := by decide) : PD p X (.Name x pos) (tVar i) (wVar i) := ⟨pe_var hN hv hd hcd, sim_var i⟩
theorem sim_c {v : V} {d : D} (h : ∀ O H, Rp p O H d v) : SimE p (tC v) (wC d) := fun O0 H0 σ H ρ n Q QV S hw k => k d ρ n v H hw S (h _ _) Ext.refl
theorem pd_int {i : Int} {j} : PD p X (.Constant (.int i) j pos) (tC (.int i)) (wC (.int i)) := ⟨pe_int, sim_c fun _ _ => rfl⟩
theorem pd_bl {i : Bool} {j} : PD p X (.Constant (.bool i) j pos) (tC (.bl i)) (wC (.bl i)) := ⟨pe_bl, sim_c fun _ _ => rfl⟩
theorem pd_non {j} : PD p X (.Constant .none j pos) (tC .non) (wC .non) := ⟨pe_non, sim_c fun _ _ => rfl⟩
theorem pd_str {x : Str} {j} : PD p X (.Constant (.str x) j pos) (tC (.str x)) (wC (.str x)) := ⟨pe_str, sim_c fun _ _ => rfl⟩
theorem pd_glob {x : Str} {v : V} {u : Value} (d : D) (hm : X.mg x = some u) (r : RelV v u) (h : ∀ O H, Rp p O H d v) (hg : Gl X x := by rfl) (hd : (x == ("__debug__" : Str)) = false := by decide) : PD p X (.Name x pos) (tC v) (wC d) := ⟨pe_glob hg hm r hd, sim_c h⟩

def wOp (g : D → D → Option D) (wa wb : WE) : WE := fun ρ n Q => wa ρ n fun a ρ1 n1 => wb ρ1 n1 fun b ρ2 n2 => opt (g a b) fun d => Q d ρ2 n2
def wUn (g : D → Option D) (wa : WE) : WE := fun ρ n Q => wa ρ n fun a ρ1 n1 => opt (g a) fun d => Q d ρ1 n1
theorem sim_op {r : R2} {g} (h : Op2 p r g) (ha : SimE p ta wa) (hb : SimE p tb wb) : SimE p (tOp r ta tb) (wOp g wa wb) := by
  intro O0 H0 σ H ρ n Q QV S hw k
  refine ha O0 H0 σ H ρ n _ _ S hw fun a ρ1 n1 x H1 q1 S1 r1 x1 => ?_
  refine hb O0 H0 σ H1 ρ1 n1 _ _ S1 q1 fun b ρ2 n2 y H2 q2 S2 r2 x2 => ?_
  obtain ⟨d, e, q⟩ := opt_get q2
  refine h O0 H0 σ H2 ρ2 n2 x y a b d QV S2 (Rp.gr x2.gr a x r1) r2 e fun v H3 S3 r3 x3 => ?_
  exact k d ρ2 n2 v H3 q S3 r3 ((x1.trans x2).trans x3)
theorem sim_un {r : V → Hp → VK → Prop} {g} (h : Op1 p r g) (ha : SimE p ta wa) : SimE p (tUn r ta) (wUn g wa) := by
  intro O0 H0 σ H ρ n Q QV S hw k
  refine ha O0 H0 σ H ρ n _ _ S hw fun a ρ1 n1 x H1 q1 S1 r1 x1 => ?_
  obtain ⟨d, e, q⟩ := opt_get q1
  exact h O0 H0 σ H1 ρ1 n1 x a d QV S1 r1 e fun v H3 S3 r3 x3 => k d ρ1 n1 v H3 q S3 r3 (x1.trans x3)
theorem pd_op {op : Operator} {r : R2} {g} (ho : OpR X (binaryOp op) r) (h : Op2 p r g) (ha : PD p X a ta wa) (hb : PD p X b tb wb) : PD p X (.BinOp a op b pos) (tOp r ta tb) (wOp g wa wb) := ⟨pe_op ho ha.pe hb.pe, sim_op h ha.sim hb.sim⟩
theorem pd_un {op : UnaryOp} {r} {g} (ho : UnR X (unaryOp op) r) (h : Op1 p r g) (ha : PD p X a ta wa) : PD p X (.UnaryOp op a pos) (tUn r ta) (wUn g wa) := ⟨pe_un ho ha.pe, sim_un h ha.sim⟩
theorem pd_cmp {op : CmpOp} {r : R2} {g} (ho : OpR X (compareOp op) r) (h : Op2 p r g) (ha : PD p X a ta wa) (hb : PD p X b tb wb) (hm : behindInMarks op b = false := by first | exact nomark _ (by decide) (by decide) | rfl) : PD p X (.Compare a [op] [b] pos) (tOp r ta tb) (wOp g wa wb) :=
  ⟨pe_cmpR ho ha.pe hb.pe hm, sim_op h ha.sim hb.sim⟩
/-- a value as a test: it is True or False -/
def onB (d : D) (Q : Bool → Prop) : Prop := match d with
  | .bl b => Q b
  | _ => False
@[simp] theorem onB_bl (b : Bool) (Q : Bool → Prop) : onB (.bl b) Q = Q b := rfl
theorem onB_get {d : D} {Q : Bool → Prop} (h : onB d Q) : ∃ b, d = .bl b ∧ Q b := by
  cases d with
  | bl b => exact ⟨b, rfl, h⟩
  | _ => exact h.elim
def wTest (w : WE) : WT := fun ρ n Q => w ρ n fun d ρ' n' => onB d fun b => Q b ρ' n'
theorem sim_test (h : SimE p ta wa) : SimT p (tTest ta) (wTest wa) := by
  intro O0 H0 σ H ρ n Q QV S hw k
  refine h O0 H0 σ H ρ n _ _ S hw fun d ρ1 n1 x H1 q1 S1 r1 x1 => ?_
  obtain ⟨b, rfl, q⟩ := onB_get q1
  exact ⟨b, r1, k b ρ1 n1 H1 q S1 x1⟩
theorem pdt_cmp {op : CmpOp} {r : R2} {g} (ho : OpR X (compareOp op) r) (h : Op2 p r g) (ha : PD p X a ta wa) (hb : PD p X b tb wb) (hm : behindInMarks op b = false := by first | exact nomark _ (by decide) (by decide) | rfl) : PDT p X (.Compare a [op] [b] pos) (tTest (tOp r ta tb)) (wTest (wOp g wa wb)) :=
  ⟨pt_cmpR ho ha.pe hb.pe hm, sim_test (sim_op h ha.sim hb.sim)⟩
/-- a < b < c -/
def wChain (g g' : D → D → Option D) (wa wb wc : WE) : WE := fun ρ n Q => wa ρ n fun a ρ1 n1 => wb ρ1 n1 fun b ρ2 n2 => opt (g a b) fun d => onB d fun k => if k = true then wc ρ2 n2 (fun c ρ3 n3 => opt (g' b c) fun d' => Q d' ρ3 n3) else Q (.bl false) ρ2 n2
theorem sim_chain {r r' : R2} {g g'} (h : Op2 p r g) (h' : Op2 p r' g') (ha : SimE p ta wa) (hb : SimE p tb wb) (hc : SimE p tc wc) : SimE p (tChain r r' ta tb tc) (wChain g g' wa wb wc) := by
  intro O0 H0 σ H ρ n Q QV S hw k
  refine ha O0 H0 σ H ρ n _ _ S hw fun a ρ1 n1 x H1 q1 S1 r1 x1 => ?_
  refine hb O0 H0 σ H1 ρ1 n1 _ _ S1 q1 fun b ρ2 n2 y H2 q2 S2 r2 x2 => ?_
  obtain ⟨d, e, q⟩ := opt_get q2
  refine h O0 H0 σ H2 ρ2 n2 x y a b d _ S2 (Rp.gr x2.gr a x r1) r2 e fun v H3 S3 r3 x3 => ?_
  obtain ⟨t, rfl, q⟩ := onB_get q
  refine ⟨t, r3, ?_⟩
  cases t with
  | false =>
    exact L2.iteF (k (.bl false) ρ2 n2 _ H3 (by simpa [onB] using q) S3 rfl ((x1.trans x2).trans x3))
  | true =>
    refine L2.iteT ?_
    refine hc O0 H0 σ H3 ρ2 n2 _ _ S3 (by simpa [onB] using q) fun c ρ4 n4 z H4 q4 S4 r4 x4 => ?_
    obtain ⟨d', e', q'⟩ := opt_get q4
    refine h' O0 H0 σ H4 ρ4 n4 y z b c d' QV S4 (Rp.gr (x3.trans x4).gr b y r2) r4 e' fun v5 H5 S5 r5 x5 => ?_
    exact k d' ρ4 n4 v5 H5 q' S5 r5 ((((x1.trans x2).trans x3).trans x4).trans x5)
theorem pd_chain {op op' : CmpOp} {r r' : R2} {g g'} (ho : OpR X (compareOp op) r) (ho' : OpR X (compareOp op') r') (h : Op2 p r g) (h' : Op2 p r' g') (ha : PD p X a ta wa) (hb : PD p X b tb wb) (hc : PD p X c tc wc) (hm : lastMarks [op, op'] [b, c] = false := by with_unfolding_all rfl) :
    PD p X (.Compare a [op, op'] [b, c] pos) (tChain r r' ta tb tc) (wChain g g' wa wb wc) := ⟨pe_chain ho ho' ha.pe hb.pe hc.pe hm, sim_chain h h' ha.sim hb.sim hc.sim⟩
theorem sim_testB (h : SimE p ta wa) : SimT p (tB ta) (wTest wa) := by
  intro O0 H0 σ H ρ n Q QV S hw k
  refine h O0 H0 σ H ρ n _ _ S hw fun d ρ1 n1 x H1 q1 S1 r1 x1 => ?_
  obtain ⟨b, rfl, q⟩ := onB_get q1
  exact ⟨b, r1, k b ρ1 n1 H1 q S1 x1⟩
/-- an expression whose value is a bool, as a test -/
theorem pdt_val (h : PD p X e te we) (he : ∀ whole, isTrue e X.env whole = (do let v ← whole; standAt e.pos; holding [v] (truthy v)) := by intro _; rfl) : PDT p X e (tB te) (wTest we) := ⟨pt_val h.pe he, sim_testB h.sim⟩
end
end DL
end
section
namespace DL
open PySem L2

section
variable {p : Par} {X : Cx} {a b c e : Expr} {ta tb tc te : TE} {wa wb wc we : WE} {pos : Pos} {rest : List Expr}

def wAnd (wa wb : WE) : WE := fun ρ n Q => wa ρ n fun a ρ1 n1 => onB a fun c => if c = true then wb ρ1 n1 Q else Q (.bl false) ρ1 n1
def wOr (wa wb : WE) : WE := fun ρ n Q => wa ρ n fun a ρ1 n1 => onB a fun c => if c = true then Q (.bl true) ρ1 n1 else wb ρ1 n1 Q
def wNot (wa : WE) : WE := fun ρ n Q => wa ρ n fun a ρ1 n1 => onB a fun c => Q (.bl (!c)) ρ1 n1
theorem pd_one {op} {t : TE} {w : WE} (h : PD p X a t w) : PD p X (.BoolOp op [a] pos) t w := ⟨pe_one h.pe, h.sim⟩
theorem pd_and (ha : PD p X a ta wa) (hb : PD p X (.BoolOp .And (b :: rest) pos) tb wb) : PD p X (.BoolOp .And (a :: b :: rest) pos) (tAndV ta tb) (wAnd wa wb) := by
  refine ⟨pe_and ha.pe hb.pe, fun O0 H0 σ H ρ n Q QV S hw k => ?_⟩
  refine ha.sim O0 H0 σ H ρ n _ _ S hw fun d ρ1 n1 x H1 q1 S1 r1 x1 => ?_
  obtain ⟨t, rfl, q⟩ := onB_get q1
  refine ⟨t, r1, ?_⟩
  cases t with
  | false => exact iteF (k (.bl false) ρ1 n1 _ H1 (by simpa using q) S1 rfl x1)
  | true => exact iteT (hb.sim O0 H0 σ H1 ρ1 n1 _ _ S1 (by simpa using q) fun d2 ρ2 n2 y H2 q2 S2 r2 x2 => k d2 ρ2 n2 y H2 q2 S2 r2 (x1.trans x2))
theorem pd_or (ha : PD p X a ta wa) (hb : PD p X (.BoolOp .Or (b :: rest) pos) tb wb) : PD p X (.BoolOp .Or (a :: b :: rest) pos) (tOrV ta tb) (wOr wa wb) := by
  refine ⟨pe_or ha.pe hb.pe, fun O0 H0 σ H ρ n Q QV S hw k => ?_⟩
  refine ha.sim O0 H0 σ H ρ n _ _ S hw fun d ρ1 n1 x H1 q1 S1 r1 x1 => ?_
  obtain ⟨t, rfl, q⟩ := onB_get q1
  refine ⟨t, r1, ?_⟩
  cases t with
  | true => exact iteT (k (.bl true) ρ1 n1 _ H1 (by simpa using q) S1 rfl x1)
  | false => exact iteF (hb.sim O0 H0 σ H1 ρ1 n1 _ _ S1 (by simpa using q) fun d2 ρ2 n2 y H2 q2 S2 r2 x2 => k d2 ρ2 n2 y H2 q2 S2 r2 (x1.trans x2))
theorem pd_not (ha : PD p X a ta wa) : PD p X (.UnaryOp .Not a pos) (tNotV ta) (wNot wa) := by
  refine ⟨pe_not ha.pe, fun O0 H0 σ H ρ n Q QV S hw k => ?_⟩
  refine ha.sim O0 H0 σ H ρ n _ _ S hw fun d ρ1 n1 x H1 q1 S1 r1 x1 => ?_
  obtain ⟨t, rfl, q⟩ := onB_get q1
  exact ⟨t, r1, k _ ρ1 n1 _ H1 q S1 rfl x1⟩

structure PDW (p : Par) (X : Cx) (e : Expr) (t : TT) (w : WT) : Prop where
  pw : PW X e t
  sim : SimT p t w
theorem PDW.pt {t : TT} {w : WT} (h : PDW p X e t w) : PDT p X e t w := ⟨h.pw.pt, h.sim⟩
variable {tA tB' : TT} {vA vB : WT}
def vAnd (wa wb : WT) : WT := fun ρ n Q => wa ρ n fun c ρ1 n1 => if c = true then wb ρ1 n1 Q else Q false ρ1 n1
def vOr (wa wb : WT) : WT := fun ρ n Q => wa ρ n fun c ρ1 n1 => if c = true then Q true ρ1 n1 else wb ρ1 n1 Q
def vNot (wa : WT) : WT := fun ρ n Q => wa ρ n fun c ρ1 n1 => Q (!c) ρ1 n1
theorem pdw_and1 (ha : PDT p X a tA vA) : PDW p X (.BoolOp .And [a] pos) tA vA := ⟨pw_and1 ha.pt, ha.sim⟩
theorem pdw_or1 (ha : PDT p X a tA vA) : PDW p X (.BoolOp .Or [a] pos) tA vA := ⟨pw_or1 ha.pt, ha.sim⟩
theorem pdw_and (ha : PDT p X a tA vA) (hb : PDW p X (.BoolOp .And (b :: rest) pos) tB' vB) : PDW p X (.BoolOp .And (a :: b :: rest) pos) (tAnd tA tB') (vAnd vA vB) := by
  refine ⟨pw_and ha.pt hb.pw, fun O0 H0 σ H ρ n Q QV S hw k => ?_⟩
  refine ha.sim O0 H0 σ H ρ n _ _ S hw fun c ρ1 n1 H1 q1 S1 x1 => ?_
  cases c with
  | false => exact iteF (k _ ρ1 n1 H1 (by simpa using q1) S1 x1)
  | true => exact iteT (hb.sim O0 H0 σ H1 ρ1 n1 _ _ S1 (by simpa using q1) fun d2 ρ2 n2 H2 q2 S2 x2 => k d2 ρ2 n2 H2 q2 S2 (x1.trans x2))
theorem pdw_or (ha : PDT p X a tA vA) (hb : PDW p X (.BoolOp .Or (b :: rest) pos) tB' vB) : PDW p X (.BoolOp .Or (a :: b :: rest) pos) (tOr tA tB') (vOr vA vB) := by
  refine ⟨pw_or ha.pt hb.pw, fun O0 H0 σ H ρ n Q QV S hw k => ?_⟩
  refine ha.sim O0 H0 σ H ρ n _ _ S hw fun c ρ1 n1 H1 q1 S1 x1 => ?_
  cases c with
  | true => exact iteT (k _ ρ1 n1 H1 (by simpa using q1) S1 x1)
  | false => exact iteF (hb.sim O0 H0 σ H1 ρ1 n1 _ _ S1 (by simpa using q1) fun d2 ρ2 n2 H2 q2 S2 x2 => k d2 ρ2 n2 H2 q2 S2 (x1.trans x2))
theorem pdt_not (ha : PDT p X a tA vA) : PDT p X (.UnaryOp .Not a pos) (tNot tA) (vNot vA) := by
  refine ⟨pt_not ha.pt, fun O0 H0 σ H ρ n Q QV S hw k => ?_⟩
  exact ha.sim O0 H0 σ H ρ n _ _ S hw fun c ρ1 n1 H1 q1 S1 x1 => k _ ρ1 n1 H1 q1 S1 x1
theorem pdt_chain {op op' : CmpOp} {r r' : R2} {g g'} (ho : OpR X (compareOp op) r) (ho' : OpR X (compareOp op') r') (h : Op2 p r g) (h' : Op2 p r' g') (ha : PD p X a ta wa) (hb : PD p X b tb wb) (hc : PD p X c tc wc) (hm : lastMarks [op, op'] [b, c] = false := by with_unfolding_all rfl) :
    PDT p X (.Compare a [op, op'] [b, c] pos) (tTest (tChain r r' ta tb tc)) (wTest (wChain g g' wa wb wc)) := ⟨pt_chain ho ho' ha.pe hb.pe hc.pe hm, sim_test (sim_chain h h' ha.sim hb.sim hc.sim)⟩
def wIf (wc : WT) (wa wb : WE) : WE := fun ρ n Q => wc ρ n fun c ρ1 n1 => if c = true then wa ρ1 n1 Q else wb ρ1 n1 Q
theorem pd_if (hc : PDT p X c tA vA) (ha : PD p X a ta wa) (hb : PD p X b tb wb) : PD p X (.IfExp c a b pos) (tIf tA ta tb) (wIf vA wa wb) := by
  refine ⟨pe_ifExp hc.pt ha.pe hb.pe, fun O0 H0 σ H ρ n Q QV S hw k => ?_⟩
  refine hc.sim O0 H0 σ H ρ n _ _ S hw fun c ρ1 n1 H1 q1 S1 x1 => ?_
  cases c with
  | true => exact iteT (ha.sim O0 H0 σ H1 ρ1 n1 _ _ S1 (by simpa using q1) fun d2 ρ2 n2 y H2 q2 S2 r2 x2 => k d2 ρ2 n2 y H2 q2 S2 r2 (x1.trans x2))
  | false => exact iteF (hb.sim O0 H0 σ H1 ρ1 n1 _ _ S1 (by simpa using q1) fun d2 ρ2 n2 y H2 q2 S2 r2 x2 => k d2 ρ2 n2 y H2 q2 S2 r2 (x1.trans x2))

variable {es : List Expr} {t : TA} {w : WA}
def wNil : WA := fun ρ n Q => Q [] ρ n
def wCons (we : WE) (w : WA) : WA := fun ρ n Q => we ρ n fun d ρ1 n1 => w ρ1 n1 fun ds ρ2 n2 => Q (d :: ds) ρ2 n2
theorem sim_nil : SimA p tNil wNil := fun O0 H0 σ H ρ n Q QV S hw k => k [] ρ n [] H hw S rfl Ext.refl
theorem sim_cons (he : SimE p te we) (hr : SimA p t w) : SimA p (tCons te t) (wCons we w) := by
  intro O0 H0 σ H ρ n Q QV S hw k
  refine he O0 H0 σ H ρ n _ _ S hw fun d ρ1 n1 x H1 q1 S1 r1 x1 => ?_
  refine hr O0 H0 σ H1 ρ1 n1 _ _ S1 q1 fun ds ρ2 n2 xs H2 q2 S2 r2 x2 => ?_
  exact k _ ρ2 n2 _ H2 q2 S2 (.cons (Rp.gr x2.gr d x r1) r2) (x1.trans x2)
theorem pda_nil : PDA p X [] tNil wNil := ⟨pa_nil, sim_nil⟩
theorem pda_cons (he : PD p X e te we) (hr : PDA p X es t w) (hs : starEach (e :: es) X.env = (false, eval e X.env) :: starEach es X.env := by rfl) : PDA p X (e :: es) (tCons te t) (wCons we w) := ⟨pa_cons he.pe hr.pa hs, sim_cons he.sim hr.sim⟩
theorem le_line {k : Nat} (h : k ≤ 100000) : k ≤ sizeLine := Nat.le_trans h (by decide)
def wTup (w : WA) : WE := fun ρ n Q => w ρ n fun ds ρ1 n1 => ds.length ≤ 100000 ∧ Q (.tup ds) ρ1 n1
def wLst (w : WA) : WE := fun ρ n Q => w ρ n fun ds ρ1 n1 => ds.length ≤ 100000 ∧ Q (.lst ds) ρ1 n1
theorem sim_tup (h : SimA p t w) : SimE p (tTup t) (wTup w) := by
  intro O0 H0 σ H ρ n Q QV S hw k
  refine h O0 H0 σ H ρ n _ _ S hw fun ds ρ1 n1 vs H1 q1 S1 r1 x1 => ?_
  refine ⟨le_line (by rw [← r1.length]; exact q1.1), fun q hq => ?_⟩
  refine k _ ρ1 n1 _ _ q1.2 (S1.alloc hq) ⟨q, vs, rfl, .inl ⟨S1.notOwn hq, upd_same⟩, RpL.gr (S1.extA hq).gr _ _ r1⟩ (x1.trans (S1.extA hq))
theorem sim_lst (h : SimA p t w) : SimF p (tLst t) (wLst w) := by
  intro O0 H0 σ H ρ n Q QV S hw k
  refine h O0 H0 σ H ρ n _ _ S hw fun ds ρ1 n1 vs H1 q1 S1 r1 x1 => ?_
  refine ⟨le_line (by rw [← r1.length]; exact q1.1), fun q hq => ?_⟩
  have e0 : ¬ O0 q := fun z => S1.notOwn hq (.inl z)
  have x2 := S1.extF (o := .lst vs) hq
  exact k _ ρ1 n1 q _ q1.2 (S1.fresh hq) ⟨vs, upd_same, RpL.gr x2.gr _ _ r1⟩ (S1.h0 hq) e0 (x1.trans x2)
theorem pd_tup {x1} (h : PDA p X es t w) : PD p X (.Tuple es x1 pos) (tTup t) (wTup w) := ⟨pe_tup h.pa, sim_tup h.sim⟩
theorem pdf_lst (h : PDA p X es t w) : PDF p X (.List es pos) (tLst t) (wLst w) := ⟨pe_lst h.pa, sim_lst h.sim⟩
end

section
variable {p : Par} {X : Cx}
theorem cat_len {α β : Type} {xs ys : List α} {us vs : List β} (h1 : xs.length = us.length) (h2 : ys.length = vs.length) (h : xs.length + ys.length ≤ 100000) : us.length + vs.length ≤ sizeLine := le_line (by omega)
def gAdd : D → D → Option D
  | .int i, .int j => some (.int (i + j))
  | .str s, .str t => if s.length + t.length ≤ 100000 then some (.str (s ++ t)) else none
  | .tup xs, .tup ys => if xs.length + ys.length ≤ 100000 then some (.tup (xs ++ ys)) else none
  | .lst xs, .lst ys => if xs.length + ys.length ≤ 100000 then some (.lst (xs ++ ys)) else none
  | _, _ => none
@[simp] theorem gAdd_int (i j : Int) : gAdd (.int i) (.int j) = some (.int (i + j)) := rfl
def rAddD (K : PySem.W.Frag) : R2 := fun x y H Q => (∃ i j, x = .int i ∧ y = .int j ∧ Q (.int (i + j)) H) ∨ (∃ i j, x = .str i ∧ y = .str j ∧ i.length + j.length ≤ sizeLine ∧ Q (.str (i ++ j)) H) ∨ rCatA K x y H Q ∨ rCat x y H Q
theorem op_addD : OpR X (binaryOp .Add) (rAddD X.K) := OpR.or op_add (OpR.or op_add_str (OpR.or op_catA op_cat))
theorem sqT_of {O : Addr → Prop} {H : Hp} {a : Addr} {vs : List V} (h : (¬ O a ∧ H a = some (.tup vs)) ∨ TupK p.K a vs) : SqT p.K H a vs := by
  rcases h with ⟨_, h⟩ | h
  · exact SqT.of h
  · exact .inr h
theorem op2_add : Op2 p (rAddD p.K) gAdd := by
  intro O0 H0 σ H ρ n x y a b d QV S ra rb hg k
  unfold gAdd at hg
  split at hg
  · cases hg
    exact .inl ⟨_, _, ra, rb, k _ H S rfl Ext.refl⟩
  · split at hg
    · cases hg
      exact .inr (.inl ⟨_, _, ra, rb, le_line (by assumption), k _ H S rfl Ext.refl⟩)
    · cases hg
  · split at hg
    · cases hg
      rename_i xs ys hl
      obtain ⟨q, vs, e1, h1, r1⟩ := ra
      obtain ⟨q', vs', e2, h2, r2⟩ := rb
      refine .inr (.inr (.inl ⟨q, q', vs, vs', e1, e2, sqT_of h1, sqT_of h2, cat_len r1.length r2.length hl, fun z => ?_, fun _ z => ?_, fun _ _ u hu => ?_⟩))
      · subst z
        have : xs = [] := List.length_eq_zero_iff.mp (by rw [r1.length]; rfl)
        subst this
        exact k _ H S ⟨q', vs', rfl, h2, by simpa using r2⟩ Ext.refl
      · subst z
        have : ys = [] := List.length_eq_zero_iff.mp (by rw [r2.length]; rfl)
        subst this
        exact k _ H S ⟨q, vs, rfl, h1, by simpa using r1⟩ Ext.refl
      · exact k _ _ (S.alloc hu) ⟨u, _, rfl, .inl ⟨S.notOwn hu, upd_same⟩, RpL.gr (S.extA hu).gr _ _ (r1.append r2)⟩ (S.extA hu)
    · cases hg
  · split at hg
    · cases hg
      rename_i xs ys hl
      obtain ⟨q, vs, e1, n1, h1, r1⟩ := ra
      obtain ⟨q', vs', e2, n2, h2, r2⟩ := rb
      exact .inr (.inr (.inr ⟨q, q', vs, vs', e1, e2, h1, h2, cat_len r1.length r2.length hl, fun u hu => k _ _ (S.alloc hu) ⟨u, _, rfl, S.notOwn hu, upd_same, RpL.gr (S.extA hu).gr _ _ (r1.append r2)⟩ (S.extA hu)⟩))
    · cases hg
  · cases hg
/-- ints -/
def gI (C : Int → Int → Bool) (f : Int → Int → Int) : D → D → Option D
  | .int i, .int j => if C i j = true then some (.int (f i j)) else none
  | _, _ => none
def gI0 (f : Int → Int → Int) : D → D → Option D
  | .int i, .int j => some (.int (f i j))
  | _, _ => none
def gB0 (f : Int → Int → Bool) : D → D → Option D
  | .int i, .int j => some (.bl (f i j))
  | _, _ => none
theorem op2_I {C : Int → Int → Bool} {C' : Int → Int → Prop} {f : Int → Int → Int} (hC : ∀ i j, C i j = true → C' i j) : Op2 p (rI C' fun i j => .int (f i j)) (gI C f) := by
  intro O0 H0 σ H ρ n x y a b d QV S ra rb hg k
  unfold gI at hg
  split at hg
  · split at hg
    · cases hg
      exact ⟨_, _, ra, rb, hC _ _ (by assumption), k _ H S rfl Ext.refl⟩
    · cases hg
  · cases hg
theorem op2_I0 {f : Int → Int → Int} : Op2 p (rI0 fun i j => .int (f i j)) (gI0 f) := by
  intro O0 H0 σ H ρ n x y a b d QV S ra rb hg k
  unfold gI0 at hg
  split at hg
  · cases hg
    exact ⟨_, _, ra, rb, k _ H S rfl Ext.refl⟩
  · cases hg
theorem op2_B0 {f : Int → Int → Bool} : Op2 p (rI0 fun i j => .bl (f i j)) (gB0 f) := by
  intro O0 H0 σ H ρ n x y a b d QV S ra rb hg k
  unfold gB0 at hg
  split at hg
  · cases hg
    exact ⟨_, _, ra, rb, k _ H S rfl Ext.refl⟩
  · cases hg
def gSub := gI0 fun i j => i - j
@[simp] theorem gSub_int (i j : Int) : gSub (.int i) (.int j) = some (.int (i - j)) := rfl
theorem op2_sub : Op2 p (rI0 fun i j => .int (i - j)) gSub := op2_I0
def cMul (i j : Int) : Bool := (decide (-(2 ^ 64) < i) && decide (i < 2 ^ 64)) || (decide (-(2 ^ 64) < j) && decide (j < 2 ^ 64))
def gMul := gI cMul fun i j => i * j
theorem op2_mul : Op2 p (rI CMul fun i j => .int (i * j)) gMul := op2_I fun i j h => by
  unfold cMul at h
  simp only [Bool.or_eq_true, Bool.and_eq_true, decide_eq_true_eq] at h
  exact h
theorem gMul_l {i j : Int} (h1 : -(2 ^ 64) < i) (h2 : i < 2 ^ 64) : gMul (.int i) (.int j) = some (.int (i * j)) := by
  show (if cMul i j = true then _ else _) = _
  rw [if_pos]
  unfold cMul
  rw [decide_eq_true h1, decide_eq_true h2]
  rfl
theorem gMul_r {i j : Int} (h1 : -(2 ^ 64) < j) (h2 : j < 2 ^ 64) : gMul (.int i) (.int j) = some (.int (i * j)) := by
  show (if cMul i j = true then _ else _) = _
  rw [if_pos]
  unfold cMul
  rw [decide_eq_true h1, decide_eq_true h2, Bool.and_self, Bool.or_true]
/-- // by a positive divisor below 2 ^ 9000 -/
def gFdiv := gI (fun _ j => decide (0 < j) && decide (j.natAbs.log2 < 9000)) fun i j => i / j
theorem op2_fdiv : Op2 p (rI CDivW fun i j => .int (i / j)) gFdiv := op2_I fun i j h => by
  simp only [Bool.and_eq_true, decide_eq_true_eq] at h
  exact h
/-- // by any divisor below 2 ^ 30 -/
def gFdivN := gI (fun _ j => decide (j ≠ 0) && decide (j.natAbs < 1073741824)) fun i j => i.fdiv j
theorem op2_fdivN : Op2 p (rI CDivN fun i j => .int (i.fdiv j)) gFdivN := op2_I fun i j h => by
  simp only [Bool.and_eq_true, decide_eq_true_eq] at h
  exact h
def gMod := gI (fun _ j => decide (0 < j)) fun i j => i % j
theorem op2_mod : Op2 p (rI (fun _ j => 0 < j) fun i j => .int (i % j)) gMod := op2_I fun i j h => by simpa using h
theorem gMod_pos {i j : Int} (h : 0 < j) : gMod (.int i) (.int j) = some (.int (i % j)) := by
  unfold gMod gI
  simp [h]
def gModN := gI (fun _ j => decide (j ≠ 0)) fun i j => i.fmod j
theorem op2_modN : Op2 p (rI (fun _ j => j ≠ 0) fun i j => .int (i.fmod j)) gModN := op2_I fun i j h => by simpa using h
theorem gModN_ne {i j : Int} (h : j ≠ 0) : gModN (.int i) (.int j) = some (.int (i.fmod j)) := by
  unfold gModN gI
  simp [h]
def gPow := gI (fun i j => decide (0 ≤ j) && decide (j ≤ 1000000) && decide (i.natAbs < 2 ^ 64)) fun i j => i ^ j.toNat
theorem op2_pow : Op2 p (rI CPow fun i j => .int (i ^ j.toNat)) gPow := op2_I fun i j h => by
  simp only [Bool.and_eq_true, decide_eq_true_eq] at h
  exact ⟨h.1.1, h.1.2, h.2⟩
def gLt := gB0 fun i j => decide (i < j)
def gLe := gB0 fun i j => decide (i ≤ j)
def gGt := gB0 fun i j => decide (j < i)
def gGe := gB0 fun i j => decide (j ≤ i)
@[simp] theorem gLt_int (i j : Int) : gLt (.int i) (.int j) = some (.bl (decide (i < j))) := rfl
@[simp] theorem gLe_int (i j : Int) : gLe (.int i) (.int j) = some (.bl (decide (i ≤ j))) := rfl
@[simp] theorem gGt_int (i j : Int) : gGt (.int i) (.int j) = some (.bl (decide (j < i))) := rfl
@[simp] theorem gGe_int (i j : Int) : gGe (.int i) (.int j) = some (.bl (decide (j ≤ i))) := rfl
theorem op2_lt : Op2 p (rI0 fun i j => .bl (decide (i < j))) gLt := op2_B0
theorem op2_le : Op2 p (rI0 fun i j => .bl (decide (i ≤ j))) gLe := op2_B0
theorem op2_gt : Op2 p (rI0 fun i j => .bl (decide (j < i))) gGt := op2_B0
theorem op2_ge : Op2 p (rI0 fun i j => .bl (decide (j ≤ i))) gGe := op2_B0
/-- texts -/
def gLtS : D → D → Option D
  | .str s, .str t => some (.bl (decide (s.cps.toList < t.cps.toList)))
  | _, _ => none
theorem op2_ltS : Op2 p (fun x y H Q => ∃ i j, x = V.str i ∧ y = V.str j ∧ Q (.bl (decide (i.cps.toList < j.cps.toList))) H) gLtS := by
  intro O0 H0 σ H ρ n x y a b d QV S ra rb hg k
  unfold gLtS at hg
  split at hg
  · cases hg
    exact ⟨_, _, ra, rb, k _ H S rfl Ext.refl⟩
  · cases hg
def gNeg : D → Option D
  | .int i => some (.int (-i))
  | _ => none
@[simp] theorem gNeg_int (i : Int) : gNeg (.int i) = some (.int (-i)) := rfl
theorem op1_neg : Op1 p (rU fun i => .int (-i)) gNeg := by
  intro O0 H0 σ H ρ n x a d QV S ra hg k
  unfold gNeg at hg
  split at hg
  · cases hg
    exact ⟨_, ra, k _ H S rfl Ext.refl⟩
  · cases hg
/-- is None -/
def gIsN (neg : Bool) : D → D → Option D := fun a b => match b with
  | .non => some (.bl (match a with | .non => !neg | _ => neg))
  | _ => none
theorem rp_non {O : Addr → Prop} {H : Hp} {d : D} {v : V} (r : Rp p O H d v) : decide (v = V.non) = (match d with | .non => true | _ => false) := by
  cases d with
  | non => cases r; rfl
  | bl _ => cases r; rfl
  | int _ => cases r; rfl
  | str _ => cases r; rfl
  | tup _ => obtain ⟨a, vs, rfl, _⟩ := r; rfl
  | lst _ => obtain ⟨a, vs, rfl, _⟩ := r; rfl
  | dic _ _ => obtain ⟨a, vs, rfl, _⟩ := r; rfl
  | obj _ _ _ => obtain ⟨a, C, dx, vs, rfl, _⟩ := r; rfl
  | ext _ => obtain ⟨a, rfl, _⟩ := r; rfl
  | ty _ => cases r; rfl
  | cls _ => obtain ⟨a, rfl, _⟩ := r; rfl
theorem op2_isN : Op2 p (fun x y H Q => y = V.non ∧ Q (.bl (decide (x = .non))) H) (gIsN false) := by
  intro O0 H0 σ H ρ n x y a b d QV S ra rb hg k
  unfold gIsN at hg
  split at hg
  · cases hg
    refine ⟨rb, k _ H S ?_ Ext.refl⟩
    rw [rp_non ra]
    cases a <;> rfl
  · cases hg
theorem op2_notN : Op2 p (fun x y H Q => y = V.non ∧ Q (.bl (!decide (x = .non))) H) (gIsN true) := by
  intro O0 H0 σ H ρ n x y a b d QV S ra rb hg k
  unfold gIsN at hg
  split at hg
  · cases hg
    refine ⟨rb, k _ H S ?_ Ext.refl⟩
    rw [rp_non ra]
    cases a <;> rfl
  · cases hg

mutual
def toP : D → Option PyData
  | .non => some .none
  | .bl b => some (.bool b)
  | .int i => some (.int i)
  | .str s => some (.str s)
  | .tup ds => (toPL ds).map .tuple
  | .lst ds => (toPL ds).map .list
  | .dic _ _ => none
  | .obj _ _ _ => none
  | .ext _ => none
  | .ty _ => none
  | .cls _ => none
def toPL : List D → Option (List PyData)
  | [] => some []
  | d :: ds => match toP d, toPL ds with
    | some x, some xs => some (x :: xs)
    | _, _ => none
end
mutual
theorem toP_dp {O : Addr → Prop} {H : Hp} : ∀ (d : D) (v : V) (x : PyData), Rp p O H d v → toP d = some x → Dp p.K H v x
  | .non, v, x, r, e => by
    cases (show v = V.non from r); cases (show some PyData.none = some x from e); exact .non
  | .bl b, v, x, r, e => by
    cases (show v = V.bl b from r); cases (show some (PyData.bool b) = some x from e); exact .bl b
  | .int i, v, x, r, e => by
    cases (show v = V.int i from r); cases (show some (PyData.int i) = some x from e); exact .int i
  | .str s, v, x, r, e => by
    cases (show v = V.str s from r); cases (show some (PyData.str s) = some x from e); exact .str s
  | .tup ds, v, x, r, e => by
    obtain ⟨a, vs, rfl, h1, r1⟩ := r
    obtain ⟨xs, e1, rfl⟩ := Option.map_eq_some_iff.mp (show (toPL ds).map PyData.tuple = some x from e)
    exact .tup (sqT_of h1) (toPL_dp ds vs xs r1 e1)
  | .lst ds, v, x, r, e => by
    obtain ⟨a, vs, rfl, n1, h1, r1⟩ := r
    obtain ⟨xs, e1, rfl⟩ := Option.map_eq_some_iff.mp (show (toPL ds).map PyData.list = some x from e)
    exact .lst (SqL.of h1) (toPL_dp ds vs xs r1 e1)
  | .dic _ _, v, x, r, e => by cases (show (none : Option PyData) = some x from e)
  | .obj _ _ _, v, x, r, e => by cases (show (none : Option PyData) = some x from e)
  | .ext _, v, x, r, e => by cases (show (none : Option PyData) = some x from e)
  | .ty _, v, x, r, e => by cases (show (none : Option PyData) = some x from e)
  | .cls _, v, x, r, e => by cases (show (none : Option PyData) = some x from e)
theorem toPL_dp {O : Addr → Prop} {H : Hp} : ∀ (ds : List D) (vs : List V) (xs : List PyData), RpL p O H ds vs → toPL ds = some xs → DpAll p.K H vs xs
  | [], vs, xs, r, e => by
    cases (show vs = [] from r); cases (show some [] = some xs from e); exact .nil
  | d :: ds, vs, xs, r, e => by
    obtain ⟨v, vr, rfl, r1, r2⟩ := r
    unfold toPL at e
    split at e
    · cases e
      exact .cons (toP_dp d v _ r1 (by assumption)) (toPL_dp ds vr _ r2 (by assumption))
    · cases e
end
def gEqB (a b : D) : Option Bool := match toP a, toP b with
  | some x, some y => if SeqAt.shaped x = true ∧ SeqAt.shaped y = true then some (PyData.eqv x y) else none
  | _, _ => none
def gEq (a b : D) : Option D := (gEqB a b).map .bl
def gNe (a b : D) : Option D := (gEqB a b).map fun k => .bl (!k)
theorem op2_eq : Op2 p (rEqD p.K) gEq := by
  intro O0 H0 σ H ρ n x y a b d QV S ra rb hg k
  unfold gEq gEqB at hg
  split at hg
  · split at hg
    · rename_i u v e1 e2 hs
      cases hg
      exact ⟨u, v, toP_dp a x u ra e1, toP_dp b y v rb e2, hs.1, hs.2, k _ H S rfl Ext.refl⟩
    · cases hg
  · cases hg
theorem op2_ne : Op2 p (rNeD p.K) gNe := by
  intro O0 H0 σ H ρ n x y a b d QV S ra rb hg k
  unfold gNe gEqB at hg
  split at hg
  · split at hg
    · rename_i u v e1 e2 hs
      cases hg
      exact ⟨u, v, toP_dp a x u ra e1, toP_dp b y v rb e2, hs.1, hs.2, k _ H S rfl Ext.refl⟩
    · cases hg
  · cases hg

def flatD : D → Bool
  | .non => true | .bl _ => true | .int _ => true | .str _ => true | _ => false
theorem flat_v {O : Addr → Prop} {H : Hp} {d : D} {v : V} (r : Rp p O H d v) (h : flatD d = true) : flatV v = true := by
  cases d with
  | non => cases (show v = _ from r); rfl
  | bl _ => cases (show v = _ from r); rfl
  | int _ => cases (show v = _ from r); rfl
  | str _ => cases (show v = _ from r); rfl
  | tup _ => cases h
  | lst _ => cases h
  | dic _ _ => cases h
  | obj _ _ _ => cases h
  | ext _ => cases h
  | ty _ => cases h
  | cls _ => cases h
/-- one flat thing equals another -/
def eqD : D → D → Bool
  | .non, .non => true
  | .bl a, .bl b => a == b
  | .bl a, .int j => (if a then 1 else 0) == j
  | .int i, .bl b => i == (if b then 1 else 0)
  | .int i, .int j => i == j
  | .str x, .str y => x == y
  | _, _ => false
theorem flat_all {O : Addr → Prop} {H : Hp} : ∀ {ds : List D} {vs : List V}, RpL p O H ds vs → ds.all flatD = true → vs.all flatV = true
  | [], _, r, _ => by cases r; rfl
  | d :: ds, _, r, h => by
    obtain ⟨v, vr, rfl, r1, r2⟩ := r
    simp only [List.all_cons, Bool.and_eq_true] at h ⊢
    exact ⟨flat_v r1 h.1, flat_all r2 h.2⟩
end
end DL
end
section
namespace DL
open PySem L2

section
variable {p : Par} {X : Cx}
theorem eqD_v {O : Addr → Prop} {H : Hp} {d e : D} {x y : V} (r : Rp p O H d x) (q : Rp p O H e y) (h : flatD d = true) (h' : flatD e = true) : eqV x y = eqD d e := by
  cases d <;> first | cases h | skip
  all_goals (cases e <;> first | cases h' | skip)
  all_goals (
    have r' := r
    have q' := q
    simp only [Rp] at r' q'
    subst r' q'
    first | rfl | simp [eqV, eqD])
theorem anyD {O : Addr → Prop} {H : Hp} {d : D} {x : V} (r : Rp p O H d x) (h : flatD d = true) : ∀ {ds : List D} {vs : List V}, RpL p O H ds vs → ds.all flatD = true → inV x vs = ds.any fun y => eqD y d
  | [], _, r2, _ => by cases r2; rfl
  | e :: ds, _, r2, hf => by
    obtain ⟨v, vr, rfl, r3, r4⟩ := r2
    simp only [List.all_cons, Bool.and_eq_true] at hf
    have := anyD r h r4 hf.2
    unfold inV at this ⊢
    rw [List.any_cons, List.any_cons, this, eqD_v r3 r hf.1 h]
def hasD (x : D) (ds : List D) (neg : Bool) : Option D := if flatD x = true ∧ ds.all flatD = true then some (.bl (if neg then !(ds.any fun y => eqD y x) else ds.any fun y => eqD y x)) else none
def gIn (neg : Bool) : D → D → Option D := fun x y => match y with
  | .lst ds => hasD x ds neg
  | .tup ds => hasD x ds neg
  | .str t => match x with
    | .str s => match s.cps.toList with
      | [c] => some (.bl (if neg then !decide (c ∈ t.cps.toList) else decide (c ∈ t.cps.toList)))
      | _ => none
    | _ => none
  | _ => none
theorem sign_of {s : Str} {c : Nat} (h : s.cps.toList = [c]) : s = ⟨#[c]⟩ := Str.ext' (Array.toList_inj.mp h)
def rInD (K : PySem.W.Frag) (neg : Bool) : R2 := fun x y H Q => rIn K neg x y H Q ∨ ∃ (c : Nat) (z : Str), x = .str ⟨#[c]⟩ ∧ y = .str z ∧ Q (.bl (if neg then !decide (c ∈ z.cps.toList) else decide (c ∈ z.cps.toList))) H
theorem op_inD : OpR X (compareOp .In) (rInD X.K false) := OpR.or op_in_seq op_in_sign
theorem op_notInD : OpR X (compareOp .NotIn) (rInD X.K true) := OpR.or op_notIn_seq op_notIn_sign
theorem op2_in {neg : Bool} : Op2 p (rInD p.K neg) (gIn neg) := by
  intro O0 H0 σ H ρ n x y a b d QV S ra rb hg k
  unfold gIn at hg
  split at hg
  · obtain ⟨q, vs, rfl, n1, h1, r1⟩ := rb
    unfold hasD at hg
    split at hg
    · rename_i hf
      cases hg
      refine .inl ⟨q, vs, rfl, .inl (SqL.of h1), flat_v ra hf.1, flat_all r1 hf.2, ?_⟩
      rw [anyD ra hf.1 r1 hf.2]
      exact k _ H S rfl Ext.refl
    · cases hg
  · obtain ⟨q, vs, rfl, h1, r1⟩ := rb
    unfold hasD at hg
    split at hg
    · rename_i hf
      cases hg
      refine .inl ⟨q, vs, rfl, .inr (sqT_of h1), flat_v ra hf.1, flat_all r1 hf.2, ?_⟩
      rw [anyD ra hf.1 r1 hf.2]
      exact k _ H S rfl Ext.refl
    · cases hg
  · split at hg
    · split at hg
      · rename_i e
        cases hg
        rw [sign_of e] at ra
        exact .inr ⟨_, _, ra, rb, k _ H S rfl Ext.refl⟩
      · cases hg
    · cases hg
  · cases hg

theorem atI_rp {O : Addr → Prop} {H : Hp} {ds : List D} {vs : List V} {i : Int} {d : D} (r : RpL p O H ds vs) (h : atI ds i = some d) : ∃ v, atI vs i = some v ∧ Rp p O H d v := by
  unfold atI at h ⊢
  rw [← r.length]
  cases e : ixN ds.length i with
  | none => rw [e] at h; cases h
  | some j =>
    rw [e] at h
    obtain ⟨v, e1, q⟩ := r.get (i := j) (d := d) h
    exact ⟨v, e1, q⟩
def gIx : D → D → Option D
  | .lst ds, .int i => atI ds i
  | .tup ds, .int i => atI ds i
  | .str z, .int i => if z.length ≤ 100000 then (atI z.cps.toList i).map fun c => .str ⟨#[c]⟩ else none
  | _, _ => none
theorem op2_ix : Op2 p (rIx p.K) gIx := by
  intro O0 H0 σ H ρ n x y a b d QV S ra rb hg k
  unfold gIx at hg
  split at hg
  · obtain ⟨q, vs, rfl, n1, h1, r1⟩ := ra
    obtain ⟨v, e, r2⟩ := atI_rp r1 hg
    exact .inl ⟨q, vs, _, v, rfl, rb, SqL.of h1, e, k _ H S r2 Ext.refl⟩
  · obtain ⟨q, vs, rfl, h1, r1⟩ := ra
    obtain ⟨v, e, r2⟩ := atI_rp r1 hg
    exact .inr (.inl ⟨q, vs, _, v, rfl, rb, sqT_of h1, e, k _ H S r2 Ext.refl⟩)
  · split at hg
    · obtain ⟨c, e, rfl⟩ := Option.map_eq_some_iff.mp hg
      exact .inr (.inr ⟨_, _, c, ra, rb, le_line (by assumption), e, k _ H S rfl Ext.refl⟩)
    · cases hg
  · cases hg
variable {a b c e : Expr} {ta tb tc te : TE} {wa wb wc we : WE} {pos p2 : Pos} {es : List Expr} {t : TA} {w : WA}
theorem pd_ix (hK : X.K = p.K) (ha : PD p X a ta wa) (hb : PD p X b tb wb) (hs : PlainIx b := by exact fun _ _ => rfl) : PD p X (.Subscript a b pos) (tOp (rIx p.K) ta tb) (wOp gIx wa wb) :=
  ⟨pe_ix (by rw [← hK]; exact ix_seq) ha.pe hb.pe hs, sim_op op2_ix ha.sim hb.sim⟩

abbrev WO := Sl → Nat → (Option Int → Sl → Nat → Prop) → Prop
def SimO (p : Par) (t : TO) (w : WO) : Prop := ∀ (O0 : Addr → Prop) (H0 : Hp) (σ : St) (H : Hp) (ρ : Sl) (n : Nat) (Q : Option Int → Sl → Nat → Prop) (QV : Option Int → Hp → Prop), StR p O0 H0 σ H ρ n → w ρ n Q →
  (∀ o ρ' n' H', Q o ρ' n' → StR p O0 H0 σ H' ρ' n' → Ext p O0 (Own O0 σ ρ) H (Own O0 σ ρ') H' → QV o H') → t σ H QV
structure PDO (p : Par) (X : Cx) (o : Option Expr) (t : TO) (w : WO) : Prop where
  po : PO X o t
  sim : SimO p t w
def onI (d : D) (Q : Int → Prop) : Prop := match d with
  | .int i => Q i
  | _ => False
@[simp] theorem onI_int (i : Int) (Q : Int → Prop) : onI (.int i) Q = Q i := rfl
theorem onI_get {d : D} {Q : Int → Prop} (h : onI d Q) : ∃ i, d = .int i ∧ Q i := by
  cases d with
  | int i => exact ⟨i, rfl, h⟩
  | _ => exact h.elim
def wNo : WO := fun ρ n Q => Q none ρ n
def wPart (w : WE) : WO := fun ρ n Q => w ρ n fun d ρ1 n1 => onI d fun i => Q (some i) ρ1 n1
theorem pdo_none : PDO p X none tNoPart wNo := ⟨po_none, fun O0 H0 σ H ρ n Q QV S hw k => k none ρ n H hw S Ext.refl⟩
theorem pdo_some (h : PD p X e te we) : PDO p X (some e) (tPart te) (wPart we) := by
  refine ⟨po_some h.pe, fun O0 H0 σ H ρ n Q QV S hw k => ?_⟩
  refine h.sim O0 H0 σ H ρ n _ _ S hw fun d ρ1 n1 x H1 q1 S1 r1 x1 => ?_
  obtain ⟨i, rfl, q⟩ := onI_get q1
  exact ⟨i, r1, k _ ρ1 n1 H1 q S1 x1⟩
def cutD {α : Type} (xs : List α) (lo hi : Option Int) : List α := (xs.drop (HT.sIx xs.length 0 lo)).take (HT.sIx xs.length xs.length hi - HT.sIx xs.length 0 lo)
theorem cut_rp {O : Addr → Prop} {H : Hp} {ds : List D} {vs : List V} {lo hi : Option Int} (r : RpL p O H ds vs) : RpL p O H (cutD ds lo hi) (cutV vs lo hi) := by
  unfold cutD cutV
  rw [r.length]
  exact (r.drop _).take _
theorem cut_whole {α : Type} {xs : List α} {lo hi : Option Int} (h : HT.sIx xs.length 0 lo = 0 ∧ HT.sIx xs.length xs.length hi = xs.length) : cutD xs lo hi = xs := by
  unfold cutD
  rw [h.1, h.2]
  simp
/-- a[lo:hi] of a tuple or a text -/
def gCut : D → Option Int → Option Int → Option D
  | .tup ds, lo, hi => some (.tup (cutD ds lo hi))
  | .lst ds, lo, hi => some (.lst (cutD ds lo hi))
  | .str z, lo, hi => if z.length ≤ 100000 then some (.str (cutS z lo hi)) else none
  | _, _, _ => none
def rCut (K : PySem.W.Frag) : V → Option Int → Option Int → Hp → VK → Prop := fun x lo hi H Q => rSlA K x lo hi H Q ∨ rSlL K x lo hi H Q ∨ rSlS x lo hi H Q
theorem sl_cut : SlR X (rCut X.K) := SlR.or sl_tupA (SlR.or sl_list sl_str)
variable {lo hi : Option Expr} {tl th : TO} {wl wh : WO}
def wSl (we : WE) (wl wh : WO) : WE := fun ρ n Q => we ρ n fun d ρ1 n1 => wl ρ1 n1 fun l ρ2 n2 => wh ρ2 n2 fun h ρ3 n3 => opt (gCut d l h) fun d' => Q d' ρ3 n3
theorem pd_slice (hK : X.K = p.K) (he : PD p X e te we) (hl : PDO p X lo tl wl) (hu : PDO p X hi th wh) : PD p X (.Subscript e (.Slice lo hi none p2) pos) (tSl (rCut p.K) te tl th) (wSl we wl wh) := by
  refine ⟨pe_slice (by rw [← hK]; exact sl_cut) he.pe hl.po hu.po, fun O0 H0 σ H ρ n Q QV S hw k => ?_⟩
  refine he.sim O0 H0 σ H ρ n _ _ S hw fun d ρ1 n1 x H1 q1 S1 r1 x1 => ?_
  refine hl.sim O0 H0 σ H1 ρ1 n1 _ _ S1 q1 fun l ρ2 n2 H2 q2 S2 x2 => ?_
  refine hu.sim O0 H0 σ H2 ρ2 n2 _ _ S2 q2 fun h ρ3 n3 H3 q3 S3 x3 => ?_
  obtain ⟨d', eg, q⟩ := opt_get q3
  have r3 := Rp.gr (x2.trans x3).gr d x r1
  have x13 := (x1.trans x2).trans x3
  unfold gCut at eg
  split at eg
  · cases eg
    obtain ⟨u, vs, rfl, h1, rl⟩ := r3
    refine .inl ⟨u, vs, rfl, sqT_of h1, fun z => ?_, fun _ v hv => ?_⟩
    · rw [← rl.length] at z
      rw [cut_whole z] at q
      exact k _ ρ3 n3 _ H3 q S3 ⟨u, vs, rfl, h1, rl⟩ x13
    · exact k _ ρ3 n3 _ _ q (S3.alloc hv) ⟨v, _, rfl, .inl ⟨S3.notOwn hv, upd_same⟩, RpL.gr (S3.extA hv).gr _ _ (cut_rp rl)⟩ (x13.trans (S3.extA hv))
  · cases eg
    obtain ⟨u, vs, rfl, m1, h1, rl⟩ := r3
    exact .inr (.inl ⟨u, vs, rfl, SqL.of h1, fun v hv => k _ ρ3 n3 _ _ q (S3.alloc hv) ⟨v, _, rfl, S3.notOwn hv, upd_same, RpL.gr (S3.extA hv).gr _ _ (cut_rp rl)⟩ (x13.trans (S3.extA hv))⟩)
  · split at eg
    · cases eg
      exact .inr (.inr ⟨_, r3, le_line (by assumption), k _ ρ3 n3 _ H3 q S3 rfl x13⟩)
    · cases eg
  · cases eg
/-- a new list from a list: xs[lo:hi] -/
def gCutL : D → Option Int → Option Int → Option D
  | .lst ds, lo, hi => some (.lst (cutD ds lo hi))
  | _, _, _ => none
def wSlL (we : WE) (wl wh : WO) : WE := fun ρ n Q => we ρ n fun d ρ1 n1 => wl ρ1 n1 fun l ρ2 n2 => wh ρ2 n2 fun h ρ3 n3 => opt (gCutL d l h) fun d' => Q d' ρ3 n3
theorem pdf_slice (hK : X.K = p.K) (he : PD p X e te we) (hl : PDO p X lo tl wl) (hu : PDO p X hi th wh) : PDF p X (.Subscript e (.Slice lo hi none p2) pos) (tSl (rSlL p.K) te tl th) (wSlL we wl wh) := by
  refine ⟨pe_slice (by rw [← hK]; exact sl_list) he.pe hl.po hu.po, fun O0 H0 σ H ρ n Q QV S hw k => ?_⟩
  refine he.sim O0 H0 σ H ρ n _ _ S hw fun d ρ1 n1 x H1 q1 S1 r1 x1 => ?_
  refine hl.sim O0 H0 σ H1 ρ1 n1 _ _ S1 q1 fun l ρ2 n2 H2 q2 S2 x2 => ?_
  refine hu.sim O0 H0 σ H2 ρ2 n2 _ _ S2 q2 fun h ρ3 n3 H3 q3 S3 x3 => ?_
  obtain ⟨d', eg, q⟩ := opt_get q3
  have r3 := Rp.gr (x2.trans x3).gr d x r1
  have x13 := (x1.trans x2).trans x3
  unfold gCutL at eg
  split at eg
  · cases eg
    obtain ⟨u, vs, rfl, m1, h1, rl⟩ := r3
    refine ⟨u, vs, rfl, SqL.of h1, fun v hv => ?_⟩
    have x4 := S3.extF (o := .lst (cutV vs l h)) hv
    exact k _ ρ3 n3 v _ q (S3.fresh hv) ⟨_, upd_same, RpL.gr x4.gr _ _ (cut_rp rl)⟩ (S3.h0 hv) (fun z => S3.notOwn hv (.inl z)) (x13.trans x4)
  · cases eg

theorem ofString_inj {a b : String} (h : Str.ofString a = Str.ofString b) : a = b := by
  have e : a.toList.map Char.toNat = b.toList.map Char.toNat := by
    rw [← PyProof.Rows.signs_ofString a, ← PyProof.Rows.signs_ofString b, h]
  have inj : ∀ (l m : List Char), l.map Char.toNat = m.map Char.toNat → l = m := by
    intro l
    induction l with
    | nil => intro m hm; cases m with
      | nil => rfl
      | cons _ _ => cases hm
    | cons c l ih => intro m hm; cases m with
      | nil => cases hm
      | cons d m =>
        simp only [List.map_cons, List.cons.injEq] at hm
        have : c = d := by
          have h1 := hm.1
          unfold Char.toNat at h1
          exact Char.ext (UInt32.toNat_inj.mp h1)
        rw [this, ih m hm.2]
  exact String.toList_inj.mp (inj _ _ e)
def lookD : List String → List D → String → Option D
  | n :: ns, d :: ds, f => if f = n then some d else lookD ns ds f
  | _, _, _ => none
theorem look_rp {O : Addr → Prop} {H : Hp} {f : String} : ∀ {ns : List String} {ds : List D} {xs : List (Str × V)} {d : D}, xs.map (·.1) = ns.map Str.ofString → RpL p O H ds (xs.map (·.2)) → lookD ns ds f = some d → ∃ v, xs.lookup (Str.ofString f) = some v ∧ Rp p O H d v
  | [], _, _, _, _, _, h => by cases h
  | n :: ns, [], _, _, _, _, h => by cases h
  | n :: ns, d0 :: ds, [], _, e, _, _ => by cases e
  | n :: ns, d0 :: ds, (m, v) :: xs, d, e, r, h => by
    simp only [List.map_cons, List.cons.injEq] at e
    obtain ⟨rfl, e⟩ := e
    obtain ⟨x, xr, e2, r1, r2⟩ := r
    simp only [List.map_cons, List.cons.injEq] at e2
    obtain ⟨rfl, rfl⟩ := e2
    unfold lookD at h
    by_cases q : f = n
    · rw [if_pos q] at h
      cases h
      subst q
      exact ⟨v, by simp [List.lookup], r1⟩
    · rw [if_neg q] at h
      obtain ⟨u, e3, r3⟩ := look_rp e r2 h
      refine ⟨u, ?_, r3⟩
      have : (Str.ofString f == Str.ofString n) = false := by simpa using fun z => q (ofString_inj z)
      rw [List.lookup_cons, this]
      exact e3
def gFld (c f : String) : D → Option D
  | .obj c' ns ds => if c' = c then lookD ns ds f else none
  | _ => none
structure ClsP (p : Par) (c : String) (C : Addr) : Prop where
  at_ : p.cls c = some C
  cl : Cls p.K C
theorem pd_fld {f : String} {C : Addr} (c : String) (hK : X.K = p.K) (cp : ClsP p c C) (nf : NoAttr p.K C f) (he : PD p X e te we) (hb : attributeBase e (Str.ofString f) X.env (eval e X.env) = eval e X.env := by rfl) :
    PD p X (.Attribute e (Str.ofString f) pos) (tFld p.K te f) (wUn (gFld c f) we) := by
  refine ⟨by rw [← hK]; exact pe_fld he.pe hb, fun O0 H0 σ H ρ n Q QV S hw k => ?_⟩
  refine he.sim O0 H0 σ H ρ n _ _ S hw fun d ρ1 n1 x H1 q1 S1 r1 x1 => ?_
  obtain ⟨d', eg, q⟩ := opt_get q1
  unfold gFld at eg
  split at eg
  · split at eg
    · rename_i c' ns ds ec
      subst ec
      obtain ⟨a, C', dx, xs, rfl, m1, h1, hc, en, rl⟩ := r1
      rw [cp.at_] at hc; cases hc
      obtain ⟨v, el, rv⟩ := look_rp en rl eg
      exact ⟨a, C, dx, xs, v, rfl, h1, cp.cl, nf, el, k d' ρ1 n1 v H1 q S1 rv x1⟩
    · cases eg
  · cases eg
/-- a constant of the class, read off a name that holds an instance (whoever owns it) -/
def wCon (i : Nat) (c f : String) (d : D) : WE := fun ρ n Q => match ρ[i]? with
  | some (.val (.obj c' ns _)) => c' = c ∧ f ∉ ns ∧ Q d ρ n
  | some (.own (.obj c' ns _)) => c' = c ∧ f ∉ ns ∧ Q d ρ n
  | _ => False
theorem lookup_notin {f : Str} : ∀ {xs : List (Str × V)}, f ∉ xs.map (·.1) → xs.lookup f = none
  | [], _ => rfl
  | (m, v) :: xs, h => by
    simp only [List.map_cons, List.mem_cons, not_or] at h
    have : (f == m) = false := by simpa using h.1
    rw [List.lookup_cons, this]
    exact lookup_notin h.2
theorem pd_con {f : String} {C : Addr} {v : V} {u : Value} {x : Str} {pos' : Pos} (i : Nat) (c : String) (d : D) (hK : X.K = p.K) (cp : ClsP p c C) (k0 : Con p.K C f v u) (hd : ∀ O H, Rp p O H d v) (hN : X.N[i]? = some x := by rfl) (hv : Vis X.env.scope x := by first | exact Or.inl rfl | exact Or.inr (Or.inl rfl) | exact Or.inr (Or.inr rfl))
    (hb : attributeBase (.Name x pos') (Str.ofString f) X.env (eval (.Name x pos') X.env) = eval (.Name x pos') X.env := by rfl) (hd1 : (x == ("__debug__" : Str)) = false := by decide) (hd2 : (x == ("__classdict__" : Str)) = false := by decide) : PD p X (.Attribute (.Name x pos') (Str.ofString f) pos) (tCon p.K (tVar i) f) (wCon i c f d) := by
  refine ⟨by rw [← hK]; exact pe_con (pv i hN hv hd1 hd2) hb, fun O0 H0 σ H ρ n Q QV S hw k => ?_⟩
  unfold wCon at hw
  split at hw
  · rename_i c' ns ds e1
    obtain ⟨rfl, hf, q⟩ := hw
    obtain ⟨v1, e2, r⟩ := S.val i _ e1
    obtain ⟨a, C', dx, xs, rfl, m1, h1, hc, en, rl⟩ := r
    rw [cp.at_] at hc; cases hc
    exact ⟨_, e2, a, C, dx, xs, v, u, rfl, h1, cp.cl, k0, lookup_notin (by rw [en]; exact fun z => hf (by obtain ⟨m, hm, e⟩ := List.mem_map.mp z; rw [← ofString_inj e]; exact hm)), k d ρ n v H q S (hd _ _) Ext.refl⟩
  · rename_i c' ns ds e1
    obtain ⟨rfl, hf, q⟩ := hw
    obtain ⟨a, e2, w0, _⟩ := S.own i _ e1
    obtain ⟨C', dx, xs, h1, hc, en, rl⟩ := w0
    rw [cp.at_] at hc; cases hc
    exact ⟨_, e2, a, C, dx, xs, v, u, rfl, h1, cp.cl, k0, lookup_notin (by rw [en]; exact fun z => hf (by obtain ⟨m, hm, e⟩ := List.mem_map.mp z; rw [← ofString_inj e]; exact hm)), k d ρ n v H q S (hd _ _) Ext.refl⟩
  · exact hw.elim

abbrev WF := List D → Nat → (D → Nat → Prop) → Prop
def spW (p : Par) (N : Nat) (w : WF) : Sp := fun vs H Q _ => ∃ (O0 : Addr → Prop) (ds : List D) (n : Nat) (q : D → Nat → Prop), (∀ a, O0 a → ∃ o, H a = some o) ∧ (∀ a, p.dk a → O0 a) ∧ p.At n H ∧ RpL p O0 H ds vs ∧ ds.length = N ∧ w ds n q ∧
  ∀ d n' v H', q d n' → (∀ a o, ¬ p.dk a → H a = some o → H' a = some o) → p.At n' H' → Rp p O0 H' d v → Q v H'
def wCallF (wf : WF) (dds : List D) (w : WA) : WE := fun ρ n Q => w ρ n fun as ρ1 n1 => wf (as ++ dds) n1 fun d n2 => Q d ρ1 n2
/-- what a call asks, from the arguments -/
theorem call_asks {O0 : Addr → Prop} {H0 H : Hp} {σ : St} {ρ : Sl} {n N : Nat} {ds : List D} {vs : List V} {wf : WF} {Q : WQ} {QV : VK} {E : XK} (S : StR p O0 H0 σ H ρ n) (r : RpL p (Own O0 σ ρ) H ds vs) (hl : ds.length = N) (hw : wf ds n fun d n2 => Q d ρ n2)
    (k : ∀ d n2 v H', Q d ρ n2 → StR p O0 H0 σ H' ρ n2 → Rp p (Own O0 σ ρ) H' d v → Ext p O0 (Own O0 σ ρ) H (Own O0 σ ρ) H' → QV v H') : spW p N wf vs H QV E :=
  ⟨Own O0 σ ρ, ds, n, _, fun a z => S.there z, fun a z => .inl (S.dk a z), S.at_, r, hl, hw, fun d n' v H' q kp at' rv => k d n' v H' q (S.move kp at') rv (S.ext kp)⟩
variable {f : Addr} {fd : FuncData} {ps : List Str} {k N : Nat} {wf : WF} {dvs : List V} {dfs : List Value} {x : Str} {p1 : Pos}
/-- how many arguments a call hands over -/
def wLen (N : Nat) (wf : WF) : WF := fun ds n Q => ds.length = N ∧ wf ds n Q
theorem pd_call (dds : List D) (F : FnOk X.prog X.w X.K X.mg X.base CX0 k f fd ps (spW p N wf)) (hr : Room k X.A) (hm : X.mg x = some (.ref f)) (hk : PySem.W.keepIn X.K (.ref f) = true) (hb : Binds X.K fd ps dfs) (hd : L2.Vals dvs dfs) (hdd : ∀ O H, RpL p O H dds dvs)
    (ha : PDA p X (e :: es) t w) (hg : Gl X x := by rfl) (hdb : (x == ("__debug__" : Str)) = false := by decide) (he : starEach (e :: es) X.env = (false, eval e X.env) :: starEach es X.env := by rfl) (hpl : (backTo pos (starEach es X.env)).any (·.1) = false := by rfl) :
    PD p X (.Call (.Name x p1) (e :: es) [] pos) (tCall (spW p N wf) dvs E0 t) (wCallF (wLen N wf) dds w) := by
  refine ⟨pe_call F hr hg hm hk hb hd pass0 ha.pa hdb he hpl, fun O0 H0 σ H ρ n Q QV S hw kk => ?_⟩
  refine ha.sim O0 H0 σ H ρ n _ _ S hw fun ds ρ1 n1 vs H1 q1 S1 r1 x1 => ?_
  exact call_asks S1 (r1.append (hdd _ _)) q1.1 q1.2 fun d n2 v H' q S' rv x2 => kk d ρ1 n2 v H' q S' rv (x1.trans x2)
theorem pd_call0 (F : FnOk X.prog X.w X.K X.mg X.base CX0 k f fd ps (spW p 0 wf)) (hr : Room k X.A) (hm : X.mg x = some (.ref f)) (hk : PySem.W.keepIn X.K (.ref f) = true) (hb : Binds X.K fd ps []) (hg : Gl X x := by rfl) (hdb : (x == ("__debug__" : Str)) = false := by decide) :
    PD p X (.Call (.Name x p1) [] [] pos) (tCall (spW p 0 wf) [] E0 tNil) (wCallF (wLen 0 wf) [] wNil) := by
  refine ⟨pe_call0 F hr hg hm hk hb .nil pass0 hdb, fun O0 H0 σ H ρ n Q QV S hw kk => ?_⟩
  exact call_asks (E := E0) (ds := []) S rfl rfl hw.2 fun d n2 v H' q S' rv x2 => kk d ρ n2 v H' q S' rv x2

def wCB (g : List D → Option D) (w : WA) : WE := fun ρ n Q => w ρ n fun as ρ1 n1 => opt (g as) fun d => Q d ρ1 n1
theorem sim_cb {r : List V → Hp → VK → Prop} {g} (h : OpC p r g) (ha : SimA p t w) : SimE p (tCB r t) (wCB g w) := by
  intro O0 H0 σ H ρ n Q QV S hw k
  refine ha O0 H0 σ H ρ n _ _ S hw fun ds ρ1 n1 vs H1 q1 S1 r1 x1 => ?_
  obtain ⟨d, e, q⟩ := opt_get q1
  exact h O0 H0 σ H1 ρ1 n1 vs ds d QV S1 r1 e fun v H2 S2 r2 x2 => k d ρ1 n1 v H2 q S2 r2 (x1.trans x2)
def wCF (g : List D → Option (List D)) (w : WA) : WE := fun ρ n Q => w ρ n fun as ρ1 n1 => opt (g as) fun ds => Q (.lst ds) ρ1 n1
theorem sim_cf {r : List V → Hp → VK → Prop} {g} (h : OpF p r g) (ha : SimA p t w) : SimF p (tCB r t) (wCF g w) := by
  intro O0 H0 σ H ρ n Q QV S hw k
  refine ha O0 H0 σ H ρ n _ _ S hw fun ds ρ1 n1 vs H1 q1 S1 r1 x1 => ?_
  obtain ⟨es, e, q⟩ := opt_get q1
  refine h O0 H0 σ H1 ρ1 n1 vs ds es QV S1 r1 e fun a us ha rl => ?_
  have x2 := S1.extF (o := .lst us) ha
  exact k _ ρ1 n1 a _ q (S1.fresh ha) ⟨us, upd_same, RpL.gr x2.gr _ _ rl⟩ (S1.h0 ha) (fun z => S1.notOwn ha (.inl z)) (x1.trans x2)
variable {id T : String} {r : List V → Hp → VK → Prop}
theorem pd_callB {g} (hc : CallR X (.builtin id) r) (h : OpC p r g) (hm : X.mg x = none) (hv : bootBuiltins x = some (.builtin id)) (ha : PDA p X (e :: es) t w) (hg : Gl X x := by rfl) (hn : x ≠ "__name__" := by decide) (hdb : (x == ("__debug__" : Str)) = false := by decide)
    (he : starEach (e :: es) X.env = (false, eval e X.env) :: starEach es X.env := by rfl) (hpl : (backTo pos (starEach es X.env)).any (·.1) = false := by rfl) : PD p X (.Call (.Name x p1) (e :: es) [] pos) (tCB r t) (wCB g w) :=
  ⟨pe_callB hc hg hm hv ha.pa hn hdb he hpl, sim_cb h ha.sim⟩
theorem pd_callT {g} (hc : CallR X (.type T) r) (h : OpC p r g) (hm : X.mg x = none) (hv : bootBuiltins x = some (.type T)) (ha : PDA p X (e :: es) t w) (hg : Gl X x := by rfl) (hn : x ≠ "__name__" := by decide) (hdb : (x == ("__debug__" : Str)) = false := by decide)
    (he : starEach (e :: es) X.env = (false, eval e X.env) :: starEach es X.env := by rfl) (hpl : (backTo pos (starEach es X.env)).any (·.1) = false := by rfl) : PD p X (.Call (.Name x p1) (e :: es) [] pos) (tCB r t) (wCB g w) :=
  ⟨pe_callTy hc hg hm hv ha.pa hn hdb he hpl, sim_cb h ha.sim⟩
theorem pdf_callB {g} (hc : CallR X (.builtin id) r) (h : OpF p r g) (hm : X.mg x = none) (hv : bootBuiltins x = some (.builtin id)) (ha : PDA p X (e :: es) t w) (hg : Gl X x := by rfl) (hn : x ≠ "__name__" := by decide) (hdb : (x == ("__debug__" : Str)) = false := by decide)
    (he : starEach (e :: es) X.env = (false, eval e X.env) :: starEach es X.env := by rfl) (hpl : (backTo pos (starEach es X.env)).any (·.1) = false := by rfl) : PDF p X (.Call (.Name x p1) (e :: es) [] pos) (tCB r t) (wCF g w) :=
  ⟨pe_callB hc hg hm hv ha.pa hn hdb he hpl, sim_cf h ha.sim⟩
theorem pdf_callT {g} (hc : CallR X (.type T) r) (h : OpF p r g) (hm : X.mg x = none) (hv : bootBuiltins x = some (.type T)) (ha : PDA p X (e :: es) t w) (hg : Gl X x := by rfl) (hn : x ≠ "__name__" := by decide) (hdb : (x == ("__debug__" : Str)) = false := by decide)
    (he : starEach (e :: es) X.env = (false, eval e X.env) :: starEach es X.env := by rfl) (hpl : (backTo pos (starEach es X.env)).any (·.1) = false := by rfl) : PDF p X (.Call (.Name x p1) (e :: es) [] pos) (tCB r t) (wCF g w) :=
  ⟨pe_callTy hc hg hm hv ha.pa hn hdb he hpl, sim_cf h ha.sim⟩
theorem pd_bltn {u : V} {v : Value} (d : D) (hm : X.mg x = none) (hv : bootBuiltins x = some v) (r : RelV u v) (h : ∀ O H, Rp p O H d u) (hg : Gl X x := by rfl) (hn : x ≠ "__name__" := by decide) (hd : (x == ("__debug__" : Str)) = false := by decide) : PD p X (.Name x pos) (tC u) (wC d) :=
  ⟨pe_bltn hg hm hv r hn hd, sim_c h⟩
/-- len -/
def gLen : List D → Option D
  | [.lst ds] => some (.int ds.length)
  | [.tup ds] => some (.int ds.length)
  | [.str z] => if z.length ≤ 100000 then some (.int z.length) else none
  | _ => none
def rLen (K : PySem.W.Frag) : List V → Hp → VK → Prop := fun xs H Q => (∃ p ys, xs = [.ref p] ∧ (SqL K H p ys ∨ SqT K H p ys) ∧ Q (.int ys.length) H) ∨ (∃ z : Str, xs = [.str z] ∧ z.length ≤ sizeLine ∧ Q (.int z.length) H)
theorem cr_len : CallR X (.builtin "len") (rLen X.K) := CallR.or call_len_seq call_len_str
theorem rpl1 {O : Addr → Prop} {H : Hp} {d : D} {xs : List V} (r : RpL p O H [d] xs) : ∃ x, xs = [x] ∧ Rp p O H d x := by
  obtain ⟨x, ys, rfl, r1, r2⟩ := r
  cases r2
  exact ⟨x, rfl, r1⟩
theorem rpl2 {O : Addr → Prop} {H : Hp} {d e : D} {xs : List V} (r : RpL p O H [d, e] xs) : ∃ x y, xs = [x, y] ∧ Rp p O H d x ∧ Rp p O H e y := by
  obtain ⟨x, ys, rfl, r1, r2⟩ := r
  obtain ⟨y, rfl, r3⟩ := rpl1 r2
  exact ⟨x, y, rfl, r1, r3⟩
theorem opc_len : OpC p (rLen p.K) gLen := by
  intro O0 H0 σ H ρ n xs as d QV S r hg k
  unfold gLen at hg
  split at hg
  · cases hg
    obtain ⟨x, rfl, q, vs, rfl, n1, h1, rl⟩ := rpl1 r
    refine .inl ⟨q, vs, rfl, .inl (SqL.of h1), ?_⟩
    rw [← rl.length]
    exact k _ H S rfl Ext.refl
  · cases hg
    obtain ⟨x, rfl, q, vs, rfl, h1, rl⟩ := rpl1 r
    refine .inl ⟨q, vs, rfl, .inr (sqT_of h1), ?_⟩
    rw [← rl.length]
    exact k _ H S rfl Ext.refl
  · split at hg
    · cases hg
      obtain ⟨x, rfl, rx⟩ := rpl1 r
      cases (show x = V.str _ from rx)
      exact .inr ⟨_, rfl, le_line (by assumption), k _ H S rfl Ext.refl⟩
    · cases hg
  · cases hg
/-- max, min of two; abs; int -/
def gMax2 : List D → Option D
  | [.int i, .int j] => some (.int (if j > i then j else i))
  | _ => none
def gMin2 : List D → Option D
  | [.int i, .int j] => some (.int (if j < i then j else i))
  | _ => none
def gInt1 : List D → Option D
  | [.int i] => some (.int i)
  | [.bl b] => some (.int (if b then 1 else 0))
  | _ => none
theorem opc_max2 : OpC p (fun xs H Q => ∃ i j, xs = [V.int i, V.int j] ∧ Q (.int (if j > i then j else i)) H) gMax2 := by
  intro O0 H0 σ H ρ n xs as d QV S r hg k
  unfold gMax2 at hg
  split at hg
  · cases hg
    obtain ⟨x, y, rfl, rx, ry⟩ := rpl2 r
    cases (show x = V.int _ from rx); cases (show y = V.int _ from ry)
    exact ⟨_, _, rfl, k _ H S rfl Ext.refl⟩
  · cases hg
theorem opc_min2 : OpC p (fun xs H Q => ∃ i j, xs = [V.int i, V.int j] ∧ Q (.int (if j < i then j else i)) H) gMin2 := by
  intro O0 H0 σ H ρ n xs as d QV S r hg k
  unfold gMin2 at hg
  split at hg
  · cases hg
    obtain ⟨x, y, rfl, rx, ry⟩ := rpl2 r
    cases (show x = V.int _ from rx); cases (show y = V.int _ from ry)
    exact ⟨_, _, rfl, k _ H S rfl Ext.refl⟩
  · cases hg
theorem opc_int1 : OpC p (fun xs H Q => (∃ i, xs = [V.int i] ∧ Q (.int i) H) ∨ ∃ k, xs = [V.bl k] ∧ Q (.int (if k then 1 else 0)) H) gInt1 := by
  intro O0 H0 σ H ρ n xs as d QV S r hg k
  unfold gInt1 at hg
  split at hg
  · cases hg
    obtain ⟨x, rfl, rx⟩ := rpl1 r
    cases (show x = V.int _ from rx)
    exact .inl ⟨_, rfl, k _ H S rfl Ext.refl⟩
  · cases hg
    obtain ⟨x, rfl, rx⟩ := rpl1 r
    cases (show x = V.bl _ from rx)
    exact .inr ⟨_, rfl, k _ H S rfl Ext.refl⟩
  · cases hg
/-- tuple(xs) -/
def gTuple : List D → Option D
  | [.lst ds] => some (.tup ds)
  | [.tup ds] => some (.tup ds)
  | _ => none
theorem opc_tuple : OpC p (fun xs H Q => ∃ q ys, xs = [V.ref q] ∧ ((SqL p.K H q ys ∧ ∀ l, H l = none → Q (.ref l) (upd H l (.tup ys))) ∨ (SqT p.K H q ys ∧ Q (.ref q) H))) gTuple := by
  intro O0 H0 σ H ρ n xs as d QV S r hg k
  unfold gTuple at hg
  split at hg
  · cases hg
    obtain ⟨x, rfl, q, vs, rfl, n1, h1, rl⟩ := rpl1 r
    exact ⟨q, vs, rfl, .inl ⟨SqL.of h1, fun l hl => k _ _ (S.alloc hl) ⟨l, vs, rfl, .inl ⟨S.notOwn hl, upd_same⟩, RpL.gr (S.extA hl).gr _ _ rl⟩ (S.extA hl)⟩⟩
  · cases hg
    obtain ⟨x, rfl, q, vs, rfl, h1, rl⟩ := rpl1 r
    exact ⟨q, vs, rfl, .inr ⟨sqT_of h1, k _ H S ⟨q, vs, rfl, h1, rl⟩ Ext.refl⟩⟩
  · cases hg
/-- list(xs) -/
def gList : List D → Option (List D)
  | [.lst ds] => some ds
  | [.tup ds] => some ds
  | _ => none
theorem opf_list : OpF p (fun xs H Q => ∃ q ys, xs = [V.ref q] ∧ (SqL p.K H q ys ∨ SqT p.K H q ys) ∧ ∀ l, H l = none → Q (.ref l) (upd H l (.lst ys))) gList := by
  intro O0 H0 σ H ρ n xs as ds QV S r hg k
  unfold gList at hg
  split at hg
  · cases hg
    obtain ⟨x, rfl, q, vs, rfl, n1, h1, rl⟩ := rpl1 r
    exact ⟨q, vs, rfl, .inl (SqL.of h1), fun l hl => k l vs hl rl⟩
  · cases hg
    obtain ⟨x, rfl, q, vs, rfl, h1, rl⟩ := rpl1 r
    exact ⟨q, vs, rfl, .inr (sqT_of h1), fun l hl => k l vs hl rl⟩
  · cases hg
/-- all(xs) of True and False -/
def blsOf : List D → Option (List Bool)
  | [] => some []
  | .bl b :: ds => (blsOf ds).map (b :: ·)
  | _ => none
theorem blsOf_eq : ∀ {ds : List D} {bs : List Bool}, blsOf ds = some bs → ds = bs.map D.bl
  | [], bs, h => by cases h; rfl
  | .bl b :: ds, bs, h => by
    obtain ⟨cs, e, rfl⟩ := Option.map_eq_some_iff.mp (show (blsOf ds).map (b :: ·) = some bs from h)
    rw [blsOf_eq e]; rfl
theorem blsOf_map (bs : List Bool) : blsOf (bs.map D.bl) = some bs := by
  induction bs with
  | nil => rfl
  | cons b bs ih => show (blsOf (bs.map D.bl)).map (b :: ·) = _; rw [ih]; rfl
def gAll : List D → Option D
  | [.lst ds] => (blsOf ds).map fun bs => .bl (bs.all _root_.id)
  | _ => none
theorem opc_all : OpC p (rAll p.K) gAll := by
  intro O0 H0 σ H ρ n xs as d QV S r hg k
  unfold gAll at hg
  split at hg
  · obtain ⟨bs, e, rfl⟩ := Option.map_eq_some_iff.mp hg
    obtain ⟨x, rfl, q, vs, rfl, n1, h1, rl⟩ := rpl1 r
    rw [blsOf_eq e] at rl
    rw [rl.mapB] at h1
    exact ⟨q, bs, rfl, SqL.of h1, k _ H S rfl Ext.refl⟩
  · cases hg
/-- isinstance of a built-in class -/
def tyD : D → Option String
  | .non => some "NoneType" | .bl _ => some "bool" | .int _ => some "int" | .str _ => some "str" | .tup _ => some "tuple" | .lst _ => some "list" | .dic _ _ => some "dict"
  | _ => none
def isiB (a b : String) : Option Bool := if a = b then some true else if (a, b) = ("bool", "int") then some true else if ["NoneType", "bool", "int", "str", "tuple", "list", "dict"].contains a = true ∧ ["bool", "int", "str", "tuple", "list", "dict"].contains b = true then some false else none
theorem isiB_kit {a b : String} {r : Bool} (h : isiB a b = some r) : kitB a b = some r := by
  have key : ∀ a ∈ ["NoneType", "bool", "int", "str", "tuple", "list", "dict"], ∀ b ∈ ["bool", "int", "str", "tuple", "list", "dict"], kitB a b = isiB a b := by decide +kernel
  by_cases ea : a ∈ ["NoneType", "bool", "int", "str", "tuple", "list", "dict"]
  · by_cases eb : b ∈ ["bool", "int", "str", "tuple", "list", "dict"]
    · rw [key a ea b eb]; exact h
    · unfold isiB at h
      split at h
      · rename_i e
        subst e
        cases h
        unfold kitB
        rw [if_pos (by simp)]
      · split at h
        · rename_i e
          obtain ⟨rfl, rfl⟩ := Prod.mk.inj e
          exact absurd (by simp) eb
        · split at h
          · rename_i e
            exact absurd (by simpa using e.2) eb
          · cases h
  · unfold isiB at h
    split at h
    · rename_i e
      subst e
      cases h
      unfold kitB
      rw [if_pos (by simp)]
    · split at h
      · rename_i e
        obtain ⟨rfl, rfl⟩ := Prod.mk.inj e
        exact absurd (by simp) ea
      · split at h
        · rename_i e
          exact absurd (by simpa using e.1) ea
        · cases h
def gIsi : List D → Option D
  | [d, .ty T] => (tyD d).bind fun a => (isiB a T).map .bl
  | _ => none
theorem tyX_of {O : Addr → Prop} {H : Hp} {d : D} {x : V} {a : String} (r : Rp p O H d x) (h : tyD d = some a) : TyX p.K H x (.type a) := by
  cases d with
  | non => cases h; cases (show x = V.non from r); exact .base .non
  | bl b => cases h; cases (show x = V.bl b from r); exact .base (.bl b)
  | int b => cases h; cases (show x = V.int b from r); exact .base (.int b)
  | str b => cases h; cases (show x = V.str b from r); exact .base (.str b)
  | tup ds =>
    cases h
    obtain ⟨q, vs, rfl, h1, _⟩ := r
    rcases h1 with ⟨_, h1⟩ | ⟨o, its, n, h1, h2, _⟩
    · exact .base (.tup h1)
    · exact .kTuple h1 h2
  | lst ds => cases h; obtain ⟨q, vs, rfl, _, h1, _⟩ := r; exact .base (.lst h1)
  | dic _ _ => cases h; obtain ⟨q, vs, rfl, _, h1, _⟩ := r; exact .base (.dK h1)
  | obj _ _ _ => cases h
  | ext _ => cases h
  | ty _ => cases h
  | cls _ => cases h
theorem opc_isi : OpC p (rIsi p.K) gIsi := by
  intro O0 H0 σ H ρ n xs as d QV S r hg k
  unfold gIsi at hg
  split at hg
  · obtain ⟨a, ea, hg⟩ := Option.bind_eq_some_iff.mp hg
    obtain ⟨b, eb, rfl⟩ := Option.map_eq_some_iff.mp hg
    obtain ⟨x, y, rfl, rx, ry⟩ := rpl2 r
    cases (show y = V.ty _ from ry)
    exact ⟨x, _, _, _, b, rfl, .ty _, tyX_of rx ea, kit_ty (isiB_kit eb), k _ H S rfl Ext.refl⟩
  · cases hg
end
end DL
end
section
namespace DL
open PySem L2

structure EndsD where
  nx : Sl → Nat → Prop
  rt : D → Nat → Prop
  bk : Sl → Nat → Prop := fun _ _ => False
  ct : Sl → Nat → Prop := fun _ _ => False
  /-- an exception: its class, its data -/
  xc : String → List D → Sl → Nat → Prop := fun _ _ _ _ => False
abbrev WS := EndsD → Sl → Nat → Prop
/-- what a piece of code writes: the slots in gs alone -/
def Only (gs : List Nat) (σ σ' : St) : Prop := σ'.length = σ.length ∧ ∀ j, j ∉ gs → σ'[j]? = σ[j]?
theorem Only.refl {gs : List Nat} {σ : St} : Only gs σ σ := ⟨rfl, fun _ _ => rfl⟩
theorem Only.trans {gs gs' : List Nat} {σ σ1 σ2 : St} (a : Only gs σ σ1) (b : Only gs' σ1 σ2) : Only (gs ++ gs') σ σ2 :=
  ⟨b.1.trans a.1, fun j h => by
    rw [List.mem_append, not_or] at h
    rw [b.2 j h.2, a.2 j h.1]⟩
theorem Only.mono {gs gs' : List Nat} {σ σ1 : St} (a : Only gs σ σ1) (h : ∀ i ∈ gs, i ∈ gs') : Only gs' σ σ1 := ⟨a.1, fun j n => a.2 j fun z => n (h j z)⟩
theorem Only.same {gs : List Nat} {σ σ1 σ2 : St} (a : Only gs σ σ1) (b : Only gs σ1 σ2) : Only gs σ σ2 := ⟨b.1.trans a.1, fun j n => (b.2 j n).trans (a.2 j n)⟩
/-- what is wanted of the slots, from what is wanted of the data; σ, O, H: where the code began; gs: the slots that it may write -/
structure EndsR (p : Par) (O0 : Addr → Prop) (H0 : Hp) (gs : List Nat) (σ : St) (O : Addr → Prop) (H : Hp) (q : EndsD) (E : Ends) : Prop where
  nx : ∀ σ' H' ρ' n', q.nx ρ' n' → StR p O0 H0 σ' H' ρ' n' → Ext p O0 O H (Own O0 σ' ρ') H' → Only gs σ σ' → E.nx σ' H'
  bk : ∀ σ' H' ρ' n', q.bk ρ' n' → StR p O0 H0 σ' H' ρ' n' → Ext p O0 O H (Own O0 σ' ρ') H' → Only gs σ σ' → E.bk σ' H'
  ct : ∀ σ' H' ρ' n', q.ct ρ' n' → StR p O0 H0 σ' H' ρ' n' → Ext p O0 O H (Own O0 σ' ρ') H' → Only gs σ σ' → E.ct σ' H'
  rt : ∀ d n' v H', q.rt d n' → (∀ a o, ¬ p.dk a → H0 a = some o → H' a = some o) → p.At n' H' → Rp p O0 H' d v → E.rt v H'
theorem EndsR.after {p : Par} {O0 : Addr → Prop} {H0 : Hp} {gs hs is : List Nat} {σ σ1 : St} {O O1 : Addr → Prop} {H H1 : Hp} {q : EndsD} {E : Ends} (r : EndsR p O0 H0 gs σ O H q E) (x : Ext p O0 O H O1 H1) (o : Only hs σ σ1) (h1 : ∀ i ∈ hs, i ∈ gs) (h2 : ∀ i ∈ is, i ∈ gs) : EndsR p O0 H0 is σ1 O1 H1 q E :=
  ⟨fun σ' H' ρ' n' a s y z => r.nx σ' H' ρ' n' a s (x.trans y) ((o.mono h1).same (z.mono h2)), fun σ' H' ρ' n' a s y z => r.bk σ' H' ρ' n' a s (x.trans y) ((o.mono h1).same (z.mono h2)), fun σ' H' ρ' n' a s y z => r.ct σ' H' ρ' n' a s (x.trans y) ((o.mono h1).same (z.mono h2)), r.rt⟩
theorem no_mem {gs : List Nat} : ∀ i ∈ ([] : List Nat), i ∈ gs := fun _ h => nomatch h
theorem EndsR.at {p : Par} {O0 : Addr → Prop} {H0 : Hp} {gs is : List Nat} {σ : St} {O O1 : Addr → Prop} {H H1 : Hp} {q : EndsD} {E : Ends} (r : EndsR p O0 H0 gs σ O H q E) (x : Ext p O0 O H O1 H1) (h : ∀ i ∈ is, i ∈ gs) : EndsR p O0 H0 is σ O1 H1 q E :=
  r.after x (hs := []) Only.refl no_mem h
def SimS (p : Par) (gs : List Nat) (t : TS) (w : WS) : Prop := ∀ (O0 : Addr → Prop) (H0 : Hp) (σ : St) (H : Hp) (ρ : Sl) (n : Nat) (q : EndsD) (E : Ends), StR p O0 H0 σ H ρ n → w q ρ n → EndsR p O0 H0 gs σ (Own O0 σ ρ) H q E → t E σ H
structure PDS (p : Par) (X : Cx) (st : Stmt) (gs : List Nat) (t : TS) (w : WS) : Prop where
  ps : PS X st t
  sim : SimS p gs t w
structure PDB (p : Par) (X : Cx) (st : List Stmt) (gs : List Nat) (t : TS) (w : WS) : Prop where
  ps : PSs X st t
  sim : SimS p gs t w
theorem mem_l {gs hs : List Nat} : ∀ i ∈ gs, i ∈ gs ++ hs := fun _ h => List.mem_append_left _ h
theorem mem_r {gs hs : List Nat} : ∀ i ∈ hs, i ∈ gs ++ hs := fun _ h => List.mem_append_right _ h

abbrev WG := D → Sl → Nat → (Sl → Nat → Prop) → Prop
abbrev WGs := List D → Sl → Nat → (Sl → Nat → Prop) → Prop
def SimG (p : Par) (gs : List Nat) (t : TG) (w : WG) : Prop := ∀ (O0 : Addr → Prop) (H0 : Hp) (σ : St) (H : Hp) (ρ : Sl) (n : Nat) (d : D) (v : V) (Q : Sl → Nat → Prop) (QV : St → Hp → Prop), StR p O0 H0 σ H ρ n → Rp p (Own O0 σ ρ) H d v → w d ρ n Q →
  (∀ σ' ρ' n', Q ρ' n' → StR p O0 H0 σ' H ρ' n' → Only gs σ σ' → Ext p O0 (Own O0 σ ρ) H (Own O0 σ' ρ') H → QV σ' H) → t v σ H QV
def SimGs (p : Par) (gs : List Nat) (t : TGs) (w : WGs) : Prop := ∀ (O0 : Addr → Prop) (H0 : Hp) (σ : St) (H : Hp) (ρ : Sl) (n : Nat) (ds : List D) (vs : List V) (Q : Sl → Nat → Prop) (QV : St → Hp → Prop), StR p O0 H0 σ H ρ n → RpL p (Own O0 σ ρ) H ds vs → w ds ρ n Q →
  (∀ σ' ρ' n', Q ρ' n' → StR p O0 H0 σ' H ρ' n' → Only gs σ σ' → Ext p O0 (Own O0 σ ρ) H (Own O0 σ' ρ') H → QV σ' H) → t vs σ H QV
structure PDG (p : Par) (X : Cx) (e : Expr) (gs : List Nat) (t : TG) (w : WG) : Prop where
  pg : PG X e t
  sim : SimG p gs t w
structure PDGs (p : Par) (X : Cx) (es : List Expr) (gs : List Nat) (t : TGs) (w : WGs) : Prop where
  pg : PGs X es t
  sim : SimGs p gs t w
section
variable {p : Par} {X : Cx} {e : Expr} {es : List Expr} {te : TE} {we : WE} {pos : Pos} {g : TG} {gt : TGs} {gs gs' : List Nat} {wg : WG} {wr : WGs}
def wName (i : Nat) : WG := fun d ρ n Q => i < ρ.length ∧ Q (ρ.set i (.val d)) n
theorem sim_name (i : Nat) : SimG p [i] (gName i) (wName i) := by
  intro O0 H0 σ H ρ n d v Q QV S r hw k
  exact k _ _ _ hw.2 (S.setV r hw.1) ⟨by simp, fun j h => by rw [List.getElem?_set_ne (fun z => h (by simp [z]))]⟩ ⟨gr_set, fun _ _ _ _ e => e⟩
theorem pdg_n (i : Nat) {x : Str} (hN : X.N.Nodup) (hi : X.N[i]? = some x := by rfl) (hx : Loc X.env.scope x := by first | exact Or.inl rfl | exact Or.inr rfl) (hf : X.fn x = true ∨ X.env.scope.names.lookup x = some .local := by first | exact .inl rfl | exact .inr rfl | assumption) : PDG p X (.Name x pos) [i] (gName i) (wName i) :=
  ⟨pg_name hN hi hx hf, sim_name i⟩
def wNilG : WGs := fun ds ρ n Q => ds = [] ∧ Q ρ n
def wConsG (wg : WG) (wr : WGs) : WGs := fun ds ρ n Q => match ds with
  | d :: r => wg d ρ n fun ρ1 n1 => wr r ρ1 n1 Q
  | [] => False
theorem pdgs_nil : PDGs p X [] [] gNil wNilG := by
  refine ⟨pgs_nil, fun O0 H0 σ H ρ n ds vs Q QV S r hw k => ?_⟩
  obtain ⟨rfl, q⟩ := hw
  exact ⟨r, k σ ρ n q S Only.refl Ext.refl⟩
theorem pdgs_cons (h1 : PDG p X e gs g wg) (h2 : PDGs p X es gs' gt wr) (hs : (assignEach (e :: es) X.env).map (·.2) = assign e X.env :: (assignEach es X.env).map (·.2) := by rfl) : PDGs p X (e :: es) (gs ++ gs') (gCons g gt) (wConsG wg wr) := by
  refine ⟨pgs_cons h1.pg h2.pg hs, fun O0 H0 σ H ρ n ds vs Q QV S r hw k => ?_⟩
  cases ds with
  | nil => exact hw.elim
  | cons d ds =>
    obtain ⟨v, vr, rfl, r1, r2⟩ := r
    refine ⟨v, vr, rfl, h1.sim O0 H0 σ H ρ n d v _ _ S r1 hw fun σ1 ρ1 n1 q1 S1 o1 x1 => ?_⟩
    exact h2.sim O0 H0 σ1 H ρ1 n1 ds vr Q QV S1 (RpL.gr x1.gr _ _ r2) q1 fun σ2 ρ2 n2 q2 S2 o2 x2 => k σ2 ρ2 n2 q2 S2 (o1.trans o2) (x1.trans x2)
def wTupG (k : Nat) (wr : WGs) : WG := fun d ρ n Q => match d with
  | .tup ds => ds.length = k ∧ wr ds ρ n Q
  | _ => False
theorem pdg_t {k0 : Nat} {k : Nat} (hK : X.K = p.K) (hc : X.calm = true) (h : PDGs p X es gs gt wr) (hn : (assignEach es X.env).length = k := by rfl) (hst : (assignEach es X.env).findIdx? (·.1) = none := by rfl) : PDG p X (.Tuple es k0 pos) gs (gTup p.K k gt) (wTupG k wr) := by
  refine ⟨by rw [← hK]; exact pg_tup hc h.pg hn hst, fun O0 H0 σ H ρ n d v Q QV S r hw kk => ?_⟩
  unfold wTupG at hw
  split at hw
  · obtain ⟨a, vs, rfl, h1, r1⟩ := r
    exact ⟨a, vs, rfl, sqT_of h1, by rw [← r1.length]; exact hw.1, h.sim O0 H0 σ H ρ n _ vs Q QV S r1 hw.2 kk⟩
  · exact hw.elim
end

section
variable {p : Par} {X : Cx} {e c : Expr} {es : List Expr} {te : TE} {we : WE} {pos : Pos} {g : TG} {gs hs : List Nat} {wg : WG} {st : Stmt} {rest a b : List Stmt} {t u : TS} {w z : WS} {tc : TT} {wc : WT}
def wSkip : WS := fun q ρ n => q.nx ρ n
def wSeq (w z : WS) : WS := fun q ρ n => w { q with nx := z q } ρ n
theorem sim_seq (h1 : SimS p gs t w) (h2 : SimS p hs u z) : SimS p (gs ++ hs) (tSeq t u) (wSeq w z) := by
  intro O0 H0 σ H ρ n q E S hw r
  refine h1 O0 H0 σ H ρ n _ _ S hw ⟨fun σ' H' ρ' n' a s x o => ?_, fun σ' H' ρ' n' a s x o => r.bk σ' H' ρ' n' a s x (o.mono mem_l), fun σ' H' ρ' n' a s x o => r.ct σ' H' ρ' n' a s x (o.mono mem_l), r.rt⟩
  exact h2 O0 H0 σ' H' ρ' n' q E s a (r.after x o mem_l mem_r)
theorem pdb_cons (h1 : PDS p X st gs t w) (h2 : PDB p X rest hs u z) : PDB p X (st :: rest) (gs ++ hs) (tSeq t u) (wSeq w z) := ⟨pss_cons h1.ps h2.ps, sim_seq h1.sim h2.sim⟩
theorem pdb_one (h1 : PDS p X st gs t w) : PDB p X [st] gs t w := ⟨pss_one h1.ps, h1.sim⟩
theorem pdb_nil : PDB p X [] [] tNext wSkip := ⟨pss_nil, fun O0 H0 σ H ρ n q E S hw r => r.nx σ H ρ n hw S Ext.refl Only.refl⟩
theorem pds_pass : PDS p X (.Pass pos) [] tNext wSkip := ⟨ps_pass, fun O0 H0 σ H ρ n q E S hw r => r.nx σ H ρ n hw S Ext.refl Only.refl⟩
def wBrk : WS := fun q ρ n => q.bk ρ n
def wCnt : WS := fun q ρ n => q.ct ρ n
theorem pds_break : PDS p X (.Break pos) [] tBreak wBrk := ⟨ps_break, fun O0 H0 σ H ρ n q E S hw r => r.bk σ H ρ n hw S Ext.refl Only.refl⟩
theorem pds_cont : PDS p X (.Continue pos) [] tCont wCnt := ⟨ps_continue, fun O0 H0 σ H ρ n q E S hw r => r.ct σ H ρ n hw S Ext.refl Only.refl⟩
def wStuck : WS := fun _ _ _ => False
theorem pds_never : PDS p X st [] tNever wStuck := ⟨ps_never, fun _ _ _ _ _ _ _ _ _ h _ => h⟩
theorem pdb_never : PDB p X rest [] tNever wStuck := ⟨pss_never, fun _ _ _ _ _ _ _ _ _ h _ => h⟩
def wExpr (we : WE) : WS := fun q ρ n => we ρ n fun _ ρ1 n1 => q.nx ρ1 n1
theorem pds_expr (he : PD p X e te we) (hsw : swapsWith e none pos.line X.env = pure false := by rfl) : PDS p X (.Expr e pos) [] (tDrop te) (wExpr we) :=
  ⟨ps_expr he.pe hsw, fun O0 H0 σ H ρ n q E S hw r => he.sim O0 H0 σ H ρ n _ _ S hw fun d ρ1 n1 v H1 q1 S1 _ x1 => r.nx σ H1 ρ1 n1 q1 S1 x1 Only.refl⟩
def wRet (we : WE) : WS := fun q ρ n => we ρ n fun d _ n1 => q.rt d n1
theorem pds_ret (he : PD p X e te we) : PDS p X (.Return (some e) pos) [] (tRet te) (wRet we) :=
  ⟨ps_ret he.pe, fun O0 H0 σ H ρ n q E S hw r => he.sim O0 H0 σ H ρ n _ _ S hw fun d ρ1 n1 v H1 q1 S1 rv x1 => r.rt d n1 v H1 q1 S1.keep S1.at_ (Rp.gr (gr_own fun a o _ z => .inl z) d v rv)⟩
def wRetN : WS := fun q _ n => q.rt .non n
theorem pds_retN : PDS p X (.Return none pos) [] tRetN wRetN :=
  ⟨ps_retN, fun O0 H0 σ H ρ n q E S hw r => r.rt .non n _ H hw S.keep S.at_ rfl⟩
def wIfS (wc : WT) (w z : WS) : WS := fun q ρ n => wc ρ n fun c ρ1 n1 => if c = true then w q ρ1 n1 else z q ρ1 n1
theorem pds_if (hc : PDT p X c tc wc) (ha : PDB p X a gs t w) (hb : PDB p X b hs u z) : PDS p X (.If c a b pos) (gs ++ hs) (tIfS tc t u) (wIfS wc w z) := by
  refine ⟨ps_if hc.pt ha.ps hb.ps, fun O0 H0 σ H ρ n q E S hw r => ?_⟩
  refine hc.sim O0 H0 σ H ρ n _ _ S hw fun k ρ1 n1 H1 q1 S1 x1 => ?_
  cases k with
  | true => exact iteT (ha.sim O0 H0 σ H1 ρ1 n1 q E S1 (by simpa using q1) (r.at x1 mem_l))
  | false => exact iteF (hb.sim O0 H0 σ H1 ρ1 n1 q E S1 (by simpa using q1) (r.at x1 mem_r))

def wAsg (we : WE) (wg : WG) : WS := fun q ρ n => we ρ n fun d ρ1 n1 => wg d ρ1 n1 q.nx
theorem sim_asg (he : SimE p te we) (hg : SimG p gs g wg) : SimS p gs (tAsg te g) (wAsg we wg) := by
  intro O0 H0 σ H ρ n q E S hw r
  refine he O0 H0 σ H ρ n _ _ S hw fun d ρ1 n1 v H1 q1 S1 rv x1 => ?_
  exact hg O0 H0 σ H1 ρ1 n1 d v _ _ S1 rv q1 fun σ2 ρ2 n2 q2 S2 o2 x2 => r.nx σ2 H1 ρ2 n2 q2 S2 (x1.trans x2) o2
theorem pds_asg {tg : Expr} (he : PD p X e te we) (hg : PDG p X tg gs g wg) (hsw : swapsWithSole [tg] e pos.line X.env = pure false := by rfl) (hw : swappedStores [tg] e X.env = pure none := by rfl) (h1 : (assignEach [tg] X.env).map (·.2) = [assign tg X.env] := by rfl) :
    PDS p X (.Assign [tg] e pos) gs (tAsg te g) (wAsg we wg) := ⟨ps_asg he.pe hg.pg hsw hw h1, sim_asg he.sim hg.sim⟩
theorem pds_set (i : Nat) {x : Str} {pos' : Pos} (hN : X.N.Nodup) (he : PD p X e te we) (hi : X.N[i]? = some x := by rfl) (hx : Loc X.env.scope x := by first | exact Or.inl rfl | exact Or.inr rfl) (hsw : swapsWith e (some (.Name x pos')) pos.line X.env = pure false := by rfl)
    (hf : X.fn x = true ∨ X.env.scope.names.lookup x = some .local := by first | exact .inl rfl | exact .inr rfl | assumption) : PDS p X (.Assign [.Name x pos'] e pos) [i] (tAsg te (gName i)) (wAsg we (wName i)) := ⟨ps_set hN hi hx he.pe hsw hf, sim_asg he.sim (sim_name i)⟩
/-- a new list, held by the name -/
def wSetO (i : Nat) (we : WE) : WS := fun q ρ n => we ρ n fun d ρ1 n1 => i < ρ1.length ∧ q.nx (ρ1.set i (.own d)) n1
theorem only_set {i : Nat} {σ : St} {v : V} : Only [i] σ (σ.set i (some v)) := ⟨by simp, fun j h => by rw [List.getElem?_set_ne (fun z => h (by simp [z]))]⟩
theorem sim_setO (i : Nat) (he : SimF p te we) : SimS p [i] (tAsg te (gName i)) (wSetO i we) := by
  intro O0 H0 σ H ρ n q E S hw r
  refine he O0 H0 σ H ρ n _ _ S hw fun d ρ1 n1 a H1 q1 S1 w1 h0 n0 x1 => ?_
  refine r.nx _ H1 _ n1 q1.2 (S1.setO w1 h0 n0 S.dk q1.1) ⟨fun b o no e => ?_, x1.kp⟩ only_set
  obtain ⟨h1, h2⟩ := x1.gr b o no e
  refine ⟨fun z => h1 ?_, h2⟩
  rcases z with z | ⟨j, d', e1, e2⟩
  · exact .inl (.inl z)
  · by_cases c : i = j
    · subst c
      rw [List.getElem?_set_self (by rw [S1.len]; exact q1.1)] at e2
      cases e2
      exact .inl (.inr rfl)
    · rw [List.getElem?_set_ne c] at e1 e2
      exact .inr ⟨j, d', e1, e2⟩
theorem pds_setO (i : Nat) {x : Str} {pos' : Pos} (hN : X.N.Nodup) (he : PDF p X e te we) (hi : X.N[i]? = some x := by rfl) (hx : Loc X.env.scope x := by first | exact Or.inl rfl | exact Or.inr rfl) (hsw : swapsWith e (some (.Name x pos')) pos.line X.env = pure false := by rfl)
    (hf : X.fn x = true ∨ X.env.scope.names.lookup x = some .local := by first | exact .inl rfl | exact .inr rfl | assumption) : PDS p X (.Assign [.Name x pos'] e pos) [i] (tAsg te (gName i)) (wSetO i we) := ⟨ps_set hN hi hx he.pe hsw hf, sim_setO i he.sim⟩
/-- x += e, ints -/
def wAugI (i : Nat) (we : WE) : WS := fun q ρ n => match ρ[i]? with
  | some (.val (.int a)) => we ρ n fun d ρ1 n1 => onI d fun b => i < ρ1.length ∧ q.nx (ρ1.set i (.val (.int (a + b)))) n1
  | _ => False
theorem pds_aug (i : Nat) {x : Str} {pos' : Pos} (hN : X.N.Nodup) (he : PD p X e te we) (hi : X.N[i]? = some x := by rfl) (hx : Loc X.env.scope x := by first | exact Or.inl rfl | exact Or.inr rfl)
    (hf : X.fn x = true ∨ X.env.scope.names.lookup x = some .local := by first | exact .inl rfl | exact .inr rfl | assumption) : PDS p X (.AugAssign (.Name x pos') .Add e pos) [i] (tAug i te (ipI fun i j => i + j)) (wAugI i we) := by
  refine ⟨ps_aug hN hi hx he.pe ip_add hf, fun O0 H0 σ H ρ n q E S hw r => ?_⟩
  unfold wAugI at hw
  split at hw
  · rename_i a e1
    obtain ⟨v, e2, rv⟩ := S.val i _ e1
    refine ⟨v, e2, he.sim O0 H0 σ H ρ n _ _ S hw fun d ρ1 n1 y H1 q1 S1 ry x1 => ?_⟩
    obtain ⟨b, rfl, hi1, q2⟩ := onI_get q1
    refine ⟨a, b, rv, ry, ?_⟩
    exact r.nx _ H1 _ n1 q2 (S1.setV (d := .int (a + b)) rfl hi1) (x1.trans ⟨gr_set, fun _ _ _ _ e => e⟩) only_set
  · exact hw.elim

/-- x.append(e) -/
def wApp (i : Nat) (we : WE) : WE := fun ρ n Q => match ρ[i]? with
  | some (.own (.lst ds)) => we ρ n fun d ρ1 n1 => match ρ1[i]? with
    | some (.own (.lst es)) => es = ds ∧ ds.length < 100000 ∧ Q .non (ρ1.set i (.own (.lst (ds ++ [d])))) n1
    | _ => False
  | _ => False
/-- what a call of a built-in type's method asks of the text -/
structure BmOk (X : Cx) (o : Expr) (name : Str) (e : Expr) (es : List Expr) (apos cpos : Pos) : Prop where
  b1 : attributeBase o name X.env (eval o X.env) = eval o X.env
  b2 : ((backTo cpos (starEach (e :: es) X.env)).all (fun x => !x.1) && (backToKw cpos (keywordEach [] X.env)).all (fun x => x.1.isSome) && decide ((e :: es).length + ([] : List Keyword).length + (if ([] : List Keyword).isEmpty then 0 else 1) < 30)) = true
  b3 : (apos.endLine == cpos.line) = true
  b4 : starEach (e :: es) X.env = (false, eval e X.env) :: starEach es X.env
  b5 : (backTo cpos (starEach es X.env)).any (·.1) = false
theorem pd_app (i : Nat) {x : Str} {p0 apos cpos : Pos} (hK : X.K = p.K) (he : PD p X e te we) (hN : X.N[i]? = some x := by rfl) (hv : Vis X.env.scope x := by first | exact Or.inl rfl | exact Or.inr (Or.inl rfl) | exact Or.inr (Or.inr rfl)) (hd : (x == ("__debug__" : Str)) = false := by decide)
    (hcd : (x == ("__classdict__" : Str)) = false := by decide) (ok : BmOk X (.Name x p0) "append" e [] apos cpos := by exact ⟨rfl, rfl, rfl, rfl, rfl⟩) :
    PD p X (.Call (.Attribute (.Name x p0) "append" apos) [e] [] cpos) (tBM p.K "list" rAppend (tVar i) (tCons te tNil)) (wApp i we) := by
  refine ⟨by rw [← hK]; exact pe_bm PySem.F.plainAttrs_list PySem.F.slot_list_append PySem.F.type_list_append mt_append (pv i hN hv hd hcd) (pa_cons he.pe pa_nil ok.b4) ok.b1 ok.b2 ok.b3 ok.b4 ok.b5, fun O0 H0 σ H ρ n Q QV S hw k => ?_⟩
  unfold wApp at hw
  split at hw
  · rename_i ds e1
    obtain ⟨a, e2, w0, n1, _⟩ := S.own i _ e1
    obtain ⟨vs, h1, r1⟩ := w0
    refine ⟨.ref a, e2, .inl ⟨rfl, _, SqL.of h1⟩, he.sim O0 H0 σ H ρ n _ _ S hw fun d ρ1 n1' y H1 q1 S1 ry x1 => ?_⟩
    split at q1
    · rename_i es e3
      obtain ⟨rfl, hl, q⟩ := q1
      obtain ⟨a', e4, w1, m1, _⟩ := S1.own i _ e3
      rw [e2] at e4; cases e4
      obtain ⟨vs', h2, r2⟩ := w1
      refine ⟨a, vs', y, rfl, rfl, h2, Nat.lt_of_lt_of_le (by rw [← r2.length]; exact hl) (le_line (Nat.le_refl _)), ?_⟩
      obtain ⟨S2, x2⟩ := S1.change (o := .lst (vs' ++ [y])) (d' := .lst (es ++ [d])) e3 e2 fun O' H' gr eo => ⟨_, eo, (RpL.gr gr _ _ r2).append (.cons (Rp.gr gr _ _ ry) rfl)⟩
      exact k _ _ n1' _ _ q S2 rfl (x1.trans x2)
    · exact q1.elim
  · exact hw.elim
end
end DL
end
section
namespace DL
open PySem L2

/-- from O, H on: the turns of J give the data ds, whatever is done to what is owned -/
structure Itm (p : Par) (O : Addr → Prop) (H : Hp) (J : It) (ds : List D) : Prop where
  ex : ∃ (G : Hp → Prop) (Y : Nat → Hp → V → Hp → Prop), Walk J ds.length G Y ∧ (∀ O' H', Gr O H O' H' → G H') ∧
    ∀ i O' Ha x Hb d, Gr O H O' Ha → (∀ a, O' a → ∃ o, Ha a = some o) → Y i Ha x Hb → ds[i]? = some d → (∀ a o, Ha a = some o → Hb a = some o) ∧ Rp p O' Hb d x
abbrev WI := Sl → Nat → (List D → Sl → Nat → Prop) → Prop
def SimI (p : Par) (t : TI) (w : WI) : Prop := ∀ (O0 : Addr → Prop) (H0 : Hp) (σ : St) (H : Hp) (ρ : Sl) (n : Nat) (Q : List D → Sl → Nat → Prop) (R : It → Hp → Prop), StR p O0 H0 σ H ρ n → w ρ n Q →
  (∀ ds ρ' n' J H', Q ds ρ' n' → StR p O0 H0 σ H' ρ' n' → Itm p (Own O0 σ ρ') H' J ds → Ext p O0 (Own O0 σ ρ) H (Own O0 σ ρ') H' → R J H') → t σ H R
structure PDI (p : Par) (X : Cx) (tg e : Expr) (t : TI) (w : WI) : Prop where
  pi : PI X tg e t
  sim : SimI p t w
section
variable {p : Par} {X : Cx} {tg e e2 : Expr} {te te2 : TE} {we : WE} {pos p1 : Pos} {t : TA} {w : WA}
def onL (d : D) (Q : List D → Prop) : Prop := match d with
  | .lst ds => Q ds
  | _ => False
def onT (d : D) (Q : List D → Prop) : Prop := match d with
  | .tup ds => Q ds
  | _ => False
@[simp] theorem onL_lst (ds : List D) (Q : List D → Prop) : onL (.lst ds) Q = Q ds := rfl
@[simp] theorem onT_tup (ds : List D) (Q : List D → Prop) : onT (.tup ds) Q = Q ds := rfl
theorem onL_get {d : D} {Q : List D → Prop} (h : onL d Q) : ∃ ds, d = .lst ds ∧ Q ds := by
  cases d with
  | lst ds => exact ⟨ds, rfl, h⟩
  | _ => exact h.elim
theorem onT_get {d : D} {Q : List D → Prop} (h : onT d Q) : ∃ ds, d = .tup ds ∧ Q ds := by
  cases d with
  | tup ds => exact ⟨ds, rfl, h⟩
  | _ => exact h.elim
def iL (we : WE) : WI := fun ρ n Q => we ρ n fun d ρ1 n1 => onL d fun ds => Q ds ρ1 n1
def iT (we : WE) : WI := fun ρ n Q => we ρ n fun d ρ1 n1 => onT d fun ds => Q ds ρ1 n1
theorem sqT_gr {O O' : Addr → Prop} {H H' : Hp} {a : Addr} {vs : List V} (h : (¬ O a ∧ H a = some (.tup vs)) ∨ TupK p.K a vs) (g : Gr O H O' H') : SqT p.K H' a vs := by
  rcases h with ⟨n, h⟩ | h
  · exact SqT.of (g _ _ n h).2
  · exact .inr h
theorem its_list {O : Addr → Prop} {H : Hp} {a : Addr} {vs : List V} {ds : List D} (n : ¬ O a) (h : H a = some (.lst vs)) (r : RpL p O H ds vs) : Itm p O H (Itl p.K a) ds := by
  refine ⟨fun H' => SqL p.K H' a vs, YAt vs, ?_, fun O' H' g => SqL.of (g _ _ n h).2, fun i O' Ha x Hb d g _ y e => ?_⟩
  · rw [r.length]; exact walk_list
  · obtain ⟨rfl, e1⟩ := y
    obtain ⟨v, e2, rv⟩ := r.get e
    rw [e1] at e2; cases e2
    exact ⟨fun _ _ z => z, Rp.gr g d x rv⟩
theorem its_tup {O : Addr → Prop} {H : Hp} {a : Addr} {vs : List V} {ds : List D} (h : (¬ O a ∧ H a = some (.tup vs)) ∨ TupK p.K a vs) (r : RpL p O H ds vs) : Itm p O H (Itt p.K a) ds := by
  refine ⟨fun H' => SqT p.K H' a vs, YAt vs, ?_, fun O' H' g => sqT_gr h g, fun i O' Ha x Hb d g _ y e => ?_⟩
  · rw [r.length]; exact walk_tup
  · obtain ⟨rfl, e1⟩ := y
    obtain ⟨v, e2, rv⟩ := r.get e
    rw [e1] at e2; cases e2
    exact ⟨fun _ _ z => z, Rp.gr g d x rv⟩
theorem pdi_list (hK : X.K = p.K) (he : PD p X e te we) : PDI p X tg e (iList p.K te) (iL we) := by
  refine ⟨by rw [← hK]; exact pi_list he.pe, fun O0 H0 σ H ρ n Q R S hw k => ?_⟩
  refine he.sim O0 H0 σ H ρ n _ _ S hw fun d ρ1 n1 x H1 q1 S1 r1 x1 => ?_
  obtain ⟨ds, rfl, q⟩ := onL_get q1
  obtain ⟨a, vs, rfl, m1, h1, rl⟩ := r1
  exact ⟨a, rfl, ⟨vs, SqL.of h1⟩, k ds ρ1 n1 _ H1 q S1 (its_list m1 h1 rl) x1⟩
theorem pdi_tup (hK : X.K = p.K) (he : PD p X e te we) : PDI p X tg e (iTup p.K te) (iT we) := by
  refine ⟨by rw [← hK]; exact pi_tup he.pe, fun O0 H0 σ H ρ n Q R S hw k => ?_⟩
  refine he.sim O0 H0 σ H ρ n _ _ S hw fun d ρ1 n1 x H1 q1 S1 r1 x1 => ?_
  obtain ⟨ds, rfl, q⟩ := onT_get q1
  obtain ⟨a, vs, rfl, h1, rl⟩ := r1
  exact ⟨a, rfl, ⟨vs, sqT_of h1⟩, k ds ρ1 n1 _ H1 q S1 (its_tup h1 rl) x1⟩
/-- lo, lo + 1, .. below hi -/
@[irreducible] def rangeD (lo : Int) (k : Nat) : List D := (List.range k).map fun (i : Nat) => D.int (lo + i)
theorem rangeD_len (lo : Int) (k : Nat) : (rangeD lo k).length = k := by simp [rangeD]
theorem its_range {O : Addr → Prop} {H : Hp} {lo : Int} {k : Nat} : Itm p O H (Itr lo k) (rangeD lo k) := by
  refine ⟨fun _ => True, YFn fun i => .int (lo + i), ?_, fun _ _ _ => True.intro, fun i O' Ha x Hb d g _ y e => ?_⟩
  · rw [rangeD_len]; exact walk_range
  · obtain ⟨rfl, rfl⟩ := y
    refine ⟨fun _ _ z => z, ?_⟩
    unfold rangeD at e
    rw [List.getElem?_map] at e
    by_cases h : i < k
    · rw [List.getElem?_range h] at e
      cases e
      rfl
    · rw [List.getElem?_eq_none (by simp; omega)] at e
      cases e
def iR1 (w : WA) : WI := fun ρ n Q => w ρ n fun as ρ1 n1 => match as with
  | [.int j] => -(2 ^ 62) ≤ j ∧ j < 2 ^ 62 ∧ Q (rangeD 0 j.toNat) ρ1 n1
  | _ => False
def iR2 (w : WA) : WI := fun ρ n Q => w ρ n fun as ρ1 n1 => match as with
  | [.int i, .int j] => (-(2 ^ 62) ≤ i ∧ i < 2 ^ 62 ∧ -(2 ^ 62) ≤ j ∧ j < 2 ^ 62) ∧ Q (rangeD i (j - i).toNat) ρ1 n1
  | _ => False
theorem pdi_range1 (hm : X.mg "range" = none) (ha : PDA p X [e] t w) (hg : Gl X "range" := by rfl) (hs : starEach [e] X.env = [(false, eval e X.env)] := by rfl) : PDI p X tg (.Call (.Name "range" p1) [e] [] pos) (iRng1 t) (iR1 w) := by
  refine ⟨pi_range1 hg hm ha.pa hs, fun O0 H0 σ H ρ n Q R S hw k => ?_⟩
  refine ha.sim O0 H0 σ H ρ n _ _ S hw fun ds ρ1 n1 vs H1 q1 S1 r1 x1 => ?_
  split at q1
  · obtain ⟨x, rfl, rx⟩ := rpl1 r1
    cases (show x = V.int _ from rx)
    exact ⟨_, rfl, q1.1, q1.2.1, k _ ρ1 n1 _ H1 q1.2.2 S1 its_range x1⟩
  · exact q1.elim
theorem pdi_range2 (hm : X.mg "range" = none) (ha : PDA p X [e, e2] t w) (hg : Gl X "range" := by rfl) (hs : starEach [e, e2] X.env = [(false, eval e X.env), (false, eval e2 X.env)] := by rfl) (hs2 : starEach [e2] X.env = [(false, eval e2 X.env)] := by rfl) : PDI p X tg (.Call (.Name "range" p1) [e, e2] [] pos) (iRng2 t) (iR2 w) := by
  refine ⟨pi_range2 hg hm ha.pa hs hs2, fun O0 H0 σ H ρ n Q R S hw k => ?_⟩
  refine ha.sim O0 H0 σ H ρ n _ _ S hw fun ds ρ1 n1 vs H1 q1 S1 r1 x1 => ?_
  split at q1
  · obtain ⟨x, y, rfl, rx, ry⟩ := rpl2 r1
    cases (show x = V.int _ from rx); cases (show y = V.int _ from ry)
    exact ⟨_, _, rfl, q1.1, k _ ρ1 n1 _ H1 q1.2 S1 its_range x1⟩
  · exact q1.elim
/-- the signs of a text -/
def signsD (z : Str) : List D := z.cps.toList.map fun c => D.str ⟨#[c]⟩
def onS (d : D) (Q : Str → Prop) : Prop := match d with
  | .str z => Q z
  | _ => False
@[simp] theorem onS_str (z : Str) (Q : Str → Prop) : onS (.str z) Q = Q z := rfl
theorem onS_get {d : D} {Q : Str → Prop} (h : onS d Q) : ∃ z, d = .str z ∧ Q z := by
  cases d with
  | str z => exact ⟨z, rfl, h⟩
  | _ => exact h.elim
theorem its_str {O : Addr → Prop} {H : Hp} {z : Str} : Itm p O H (Its z) (signsD z) := by
  refine ⟨fun _ => True, fun i H v H' => H' = H ∧ ∃ c, z.cps[i]? = some c ∧ v = .str ⟨#[c]⟩, ?_, fun _ _ _ => True.intro, fun i O' Ha x Hb d g _ y e => ?_⟩
  · have : (signsD z).length = z.cps.size := by simp [signsD]
    rw [this]; exact walk_str
  · obtain ⟨rfl, c, e1, rfl⟩ := y
    refine ⟨fun _ _ z => z, ?_⟩
    unfold signsD at e
    rw [List.getElem?_map, Array.getElem?_toList, e1] at e
    cases e
    rfl
end
end DL
end
section
namespace DL
open PySem L2 RZ
section
variable {p : Par} {X : Cx} {tg e e2 : Expr} {te te2 : TE} {we : WE} {pos p1 : Pos} {t : TA} {w : WA}
def iS (we : WE) : WI := fun ρ n Q => we ρ n fun d ρ1 n1 => onS d fun z => Q (signsD z) ρ1 n1
theorem pdi_str (he : PD p X e te we) : PDI p X tg e (iStr te) (iS we) := by
  refine ⟨pi_str he.pe, fun O0 H0 σ H ρ n Q R S hw k => ?_⟩
  refine he.sim O0 H0 σ H ρ n _ _ S hw fun d ρ1 n1 x H1 q1 S1 r1 x1 => ?_
  obtain ⟨z, rfl, q⟩ := onS_get q1
  exact ⟨z, r1, k _ ρ1 n1 _ H1 q S1 its_str x1⟩
theorem pair_rp {O' : Addr → Prop} {Ha : Hp} {T : Addr} {x y : V} {a b : D} (th : ∀ a, O' a → ∃ o, Ha a = some o) (hT : Ha T = none) (ra : Rp p O' Ha a x) (rb : Rp p O' Ha b y) : (∀ c o, Ha c = some o → upd Ha T (.tup [x, y]) c = some o) ∧ Rp p O' (upd Ha T (.tup [x, y])) (.tup [a, b]) (.ref T) := by
  have g : Gr O' Ha O' (upd Ha T (.tup [x, y])) := gr_new hT
  refine ⟨keep_new hT, T, [x, y], rfl, .inl ⟨fun z => ?_, upd_same⟩, .cons (Rp.gr g a x ra) (.cons (Rp.gr g b y rb) rfl)⟩
  obtain ⟨o, e⟩ := th T z
  rw [hT] at e; cases e
def pairsD (xs ys : List D) : List D := List.zipWith (fun x y => D.tup [x, y]) xs ys
theorem pairsD_get {xs ys : List D} {i : Nat} {d : D} (h : (pairsD xs ys)[i]? = some d) : ∃ x y, xs[i]? = some x ∧ ys[i]? = some y ∧ d = .tup [x, y] := by
  unfold pairsD at h
  rw [List.getElem?_zipWith_eq_some] at h
  obtain ⟨x, y, h1, h2, h3⟩ := h
  exact ⟨x, y, h1, h2, h3.symm⟩
theorem walk_zipT {K : PySem.W.Frag} {a b : Addr} {xs ys : List V} {n : Nat} (hn : n = min xs.length ys.length) : Walk (ItzT K a b) n (fun H => SqT K H a xs ∧ SqT K H b ys) (YPair (fun i => xs[i]?) (fun i => ys[i]?)) := by
  subst hn
  constructor
  · intro i H hi q
    have h1 : i < xs.length := by omega
    have h2 : i < ys.length := by omega
    refine ⟨xs, ys, xs[i], ys[i], q.1, q.2, ?_, ?_⟩ <;> simp [h1, h2]
  · intro H q
    exact ⟨xs, ys, q.1, q.2, by omega⟩
  · rintro i H v H' _ q ⟨T, x, z, h1, h2, h3, h4, h5⟩
    exact ⟨T, x, z, h1, h2, h3, h4 xs q.1, h5 ys q.2⟩
theorem its_zipL {O : Addr → Prop} {H : Hp} {a b : Addr} {xs ys : List V} {ds es : List D} (n : ¬ O a) (h : H a = some (.lst xs)) (r : RpL p O H ds xs) (n' : ¬ O b) (h' : H b = some (.lst ys)) (r' : RpL p O H es ys) : Itm p O H (Itz p.K a b) (pairsD ds es) := by
  refine ⟨fun H' => SqL p.K H' a xs ∧ SqL p.K H' b ys, YPair (fun i => xs[i]?) (fun i => ys[i]?), walk_zip ?_, fun O' H' g => ⟨SqL.of (g _ _ n h).2, SqL.of (g _ _ n' h').2⟩, fun i O' Ha x Hb d g th y e => ?_⟩
  · unfold pairsD
    rw [List.length_zipWith, r.length, r'.length]
  · obtain ⟨T, u, v, rfl, hT, rfl, e1, e2⟩ := y
    obtain ⟨da, db, e3, e4, rfl⟩ := pairsD_get e
    obtain ⟨u', e5, ra⟩ := r.get e3
    obtain ⟨v', e6, rb⟩ := r'.get e4
    obtain rfl : u = u' := Option.some.inj (e1.symm.trans e5)
    obtain rfl : v = v' := Option.some.inj (e2.symm.trans e6)
    exact pair_rp th hT (Rp.gr g _ _ ra) (Rp.gr g _ _ rb)
theorem its_zipT {O : Addr → Prop} {H : Hp} {a b : Addr} {xs ys : List V} {ds es : List D} (h : (¬ O a ∧ H a = some (.tup xs)) ∨ TupK p.K a xs) (r : RpL p O H ds xs) (h' : (¬ O b ∧ H b = some (.tup ys)) ∨ TupK p.K b ys) (r' : RpL p O H es ys) : Itm p O H (ItzT p.K a b) (pairsD ds es) := by
  refine ⟨fun H' => SqT p.K H' a xs ∧ SqT p.K H' b ys, YPair (fun i => xs[i]?) (fun i => ys[i]?), walk_zipT ?_, fun O' H' g => ⟨sqT_gr h g, sqT_gr h' g⟩, fun i O' Ha x Hb d g th y e => ?_⟩
  · unfold pairsD
    rw [List.length_zipWith, r.length, r'.length]
  · obtain ⟨T, u, v, rfl, hT, rfl, e1, e2⟩ := y
    obtain ⟨da, db, e3, e4, rfl⟩ := pairsD_get e
    obtain ⟨u', e5, ra⟩ := r.get e3
    obtain ⟨v', e6, rb⟩ := r'.get e4
    obtain rfl : u = u' := Option.some.inj (e1.symm.trans e5)
    obtain rfl : v = v' := Option.some.inj (e2.symm.trans e6)
    exact pair_rp th hT (Rp.gr g _ _ ra) (Rp.gr g _ _ rb)
def iZ (w : WA) : WI := fun ρ n Q => w ρ n fun as ρ1 n1 => match as with
  | [.lst xs, .lst ys] => Q (pairsD xs ys) ρ1 n1
  | [.tup xs, .tup ys] => Q (pairsD xs ys) ρ1 n1
  | _ => False
theorem pdi_zip {tpos : Pos} {elts : List Expr} {kk : Nat} (hK : X.K = p.K) (hm : X.mg "zip" = none) (ha : PDA p X [e, e2] t w) (hg : Gl X "zip" := by rfl) (hs : starEach [e, e2] X.env = (false, eval e X.env) :: starEach [e2] X.env := by rfl) (hpl : (backTo pos (starEach [e2] X.env)).any (·.1) = false := by rfl) :
    PDI p X (.Tuple elts kk tpos) (.Call (.Name "zip" p1) [e, e2] [] pos) (iZipA p.K t) (iZ w) := by
  refine ⟨by rw [← hK]; exact pi_zipA hg hm ha.pa hs hpl, fun O0 H0 σ H ρ n Q R S hw k => ?_⟩
  refine ha.sim O0 H0 σ H ρ n _ _ S hw fun ds ρ1 n1 vs H1 q1 S1 r1 x1 => ?_
  split at q1
  · obtain ⟨x, y, rfl, rx, ry⟩ := rpl2 r1
    obtain ⟨a, xs, rfl, m1, h1, ra⟩ := rx
    obtain ⟨b, ys, rfl, m2, h2, rb⟩ := ry
    exact ⟨a, b, xs, ys, rfl, .inl ⟨SqL.of h1, SqL.of h2, k _ ρ1 n1 _ H1 q1 S1 (its_zipL m1 h1 ra m2 h2 rb) x1⟩⟩
  · obtain ⟨x, y, rfl, rx, ry⟩ := rpl2 r1
    obtain ⟨a, xs, rfl, h1, ra⟩ := rx
    obtain ⟨b, ys, rfl, h2, rb⟩ := ry
    exact ⟨a, b, xs, ys, rfl, .inr ⟨sqT_of h1, sqT_of h2, k _ ρ1 n1 _ H1 q1 S1 (its_zipT h1 ra h2 rb) x1⟩⟩
  · exact q1.elim
def enumD : Nat → List D → List D
  | _, [] => []
  | i, d :: ds => .tup [.int i, d] :: enumD (i + 1) ds
theorem enumD_len : ∀ (i : Nat) (ds : List D), (enumD i ds).length = ds.length
  | _, [] => rfl
  | i, d :: ds => by simp [enumD, enumD_len (i + 1) ds]
theorem enumD_get : ∀ {k : Nat} {ds : List D} {i : Nat} {d : D}, (enumD k ds)[i]? = some d → ∃ x, ds[i]? = some x ∧ d = .tup [.int ((k + i : Nat) : Int), x]
  | _, [], _, _, h => by simp [enumD] at h
  | k, d0 :: ds, 0, d, h => by
    simp [enumD] at h
    exact ⟨d0, rfl, by simp [← h]⟩
  | k, d0 :: ds, i + 1, d, h => by
    obtain ⟨x, e1, e2⟩ := enumD_get (k := k + 1) (ds := ds) (i := i) (d := d) (by simpa [enumD] using h)
    refine ⟨x, by simpa using e1, ?_⟩
    rw [e2]
    have : k + 1 + i = k + (i + 1) := by omega
    rw [this]
theorem its_enum {O : Addr → Prop} {H : Hp} {a : Addr} {xs : List V} {ds : List D} (n : ¬ O a) (h : H a = some (.lst xs)) (r : RpL p O H ds xs) : Itm p O H (Ite p.K a) (enumD 0 ds) := by
  refine ⟨fun H' => SqL p.K H' a xs, YPair (fun i => some (.int (i : Nat))) (fun i => xs[i]?), ?_, fun O' H' g => SqL.of (g _ _ n h).2, fun i O' Ha x Hb d g th y e => ?_⟩
  · rw [enumD_len, r.length]; exact walk_enum
  · obtain ⟨T, u, v, rfl, hT, rfl, e1, e2⟩ := y
    obtain ⟨db, e3, rfl⟩ := enumD_get e
    obtain ⟨v', e6, rb⟩ := r.get e3
    obtain rfl : v = v' := Option.some.inj (e2.symm.trans e6)
    obtain rfl : V.int (i : Nat) = u := Option.some.inj e1
    refine pair_rp th hT ?_ (Rp.gr g _ _ rb)
    show V.int _ = V.int _
    simp

def loopW (wg : WG) (wb : WS) (q : EndsD) : List D → Sl → Nat → Prop
  | [], ρ, n => q.nx ρ n
  | d :: ds, ρ, n => wg d ρ n fun ρ' n' => wb { nx := loopW wg wb q ds, ct := loopW wg wb q ds, bk := q.nx, rt := q.rt, xc := q.xc } ρ' n'
def wFor (wi : WI) (wg : WG) (wb : WS) : WS := fun q ρ n => wi ρ n fun ds ρ1 n1 => loopW wg wb q ds ρ1 n1
variable {iter : Expr} {body : List Stmt} {ti : TI} {g : TG} {tb : TS} {wi : WI} {wg : WG} {wb : WS} {gs hs : List Nat}
theorem sim_for (hi : SimI p ti wi) (hg : SimG p gs g wg) (hb : SimS p hs tb wb) : SimS p (gs ++ hs) (tFor ti g tb) (wFor wi wg wb) := by
  intro O0 H0 σ H ρ n q E S hw r
  refine hi O0 H0 σ H ρ n _ _ S hw fun ds ρ1 n1 J H1 q1 S1 I1 x1 => ?_
  obtain ⟨G, Y, wk, hG, hY⟩ := I1.ex
  refine for_it wk (fun i σ' H' => ∃ ρ' n', StR p O0 H0 σ' H' ρ' n' ∧ Ext p O0 (Own O0 σ ρ1) H1 (Own O0 σ' ρ') H' ∧ Only (gs ++ hs) σ σ' ∧ loopW wg wb q (ds.drop i) ρ' n') ⟨ρ1, n1, S1, Ext.refl, Only.refl, by simpa using q1⟩ (fun i σ' H' _ ⟨ρ', n', _, x, _⟩ => hG _ _ x.gr) ?_ ?_
  · rintro i v σ' Ha Hb hlt ⟨ρ', n', S', x', o', lw⟩ y
    obtain ⟨kb, rv⟩ := hY i (Own O0 σ' ρ') Ha v Hb ds[i] x'.gr (fun a z => S'.there z) y (by simp [hlt])
    have Sb := S'.grow kb
    have xb : Ext p O0 (Own O0 σ' ρ') Ha (Own O0 σ' ρ') Hb := S'.ext fun a o _ z => kb a o z
    rw [List.drop_eq_getElem_cons hlt] at lw
    refine hg O0 H0 σ' Hb ρ' n' ds[i] v _ _ Sb rv lw fun σ2 ρ2 n2 q2 S2 o2 x2 => ?_
    have x12 := (x'.trans xb).trans x2
    have o12 : Only (gs ++ hs) σ σ2 := o'.same (o2.mono mem_l)
    refine hb O0 H0 σ2 Hb ρ2 n2 _ _ S2 q2 ⟨fun σ3 H3 ρ3 n3 a s x3 o3 => ⟨ρ3, n3, s, x12.trans x3, o12.same (o3.mono mem_r), a⟩, fun σ3 H3 ρ3 n3 a s x3 o3 => ?_, fun σ3 H3 ρ3 n3 a s x3 o3 => ⟨ρ3, n3, s, x12.trans x3, o12.same (o3.mono mem_r), a⟩, r.rt⟩
    exact r.nx σ3 H3 ρ3 n3 a s (x1.trans (x12.trans x3)) (o12.same (o3.mono mem_r))
  · rintro σ' H' ⟨ρ', n', S', x', o', lw⟩
    rw [List.drop_length] at lw
    exact r.nx σ' H' ρ' n' lw S' (x1.trans x') o'
theorem pds_for (hp : PassesOwn (model X.prog X.w) X.A X.env X.xe) (hc : X.calm = true) (hi : PDI p X tg iter ti wi) (hg : PDG p X tg gs g wg) (hb : PDB p X body hs tb wb) (hfs : ∀ x, foldedSetIterable iter X.env x = pure x := by intro _; rfl) :
    PDS p X (.For tg iter body [] pos) (gs ++ hs) (tFor ti g tb) (wFor wi wg wb) := ⟨ps_for hp hc hi.pi hg.pg hb.ps hfs, sim_for hi.sim hg.sim hb.sim⟩
end
end DL
end
section
namespace DL
open PySem L2

def noOwn (ρ : Sl) (vs : List Nat) : Bool := vs.all fun i => match ρ[i]? with
  | some (.own _) => false
  | _ => true
def wipeS (ρ : Sl) : List Nat → Sl
  | [] => ρ
  | v :: vs => (wipeS ρ vs).set v .un
/-- ρ with the slots vs as they are in ρ0 -/
def backS (ρ0 ρ : Sl) : List Nat → Sl
  | [] => ρ
  | v :: vs => match ρ0[v]? with
    | some s => (backS ρ0 ρ vs).set v s
    | none => backS ρ0 ρ vs
section
variable {p : Par} {O0 : Addr → Prop} {H0 H H' : Hp} {σ σ' : St} {ρ ρ0 : Sl} {n m : Nat}
theorem noOwn_at {vs : List Nat} (h : noOwn ρ vs = true) {i : Nat} {d : D} (e : ρ[i]? = some (.own d)) : i ∉ vs := fun hm => by
  have := List.all_eq_true.mp h i hm
  rw [e] at this
  cases this
theorem wipeS_length (ρ : Sl) : ∀ vs : List Nat, (wipeS ρ vs).length = ρ.length
  | [] => rfl
  | v :: vs => by unfold wipeS; rw [List.length_set, wipeS_length ρ vs]
theorem wipeS_out {j : Nat} : ∀ {vs : List Nat}, j ∉ vs → (wipeS ρ vs)[j]? = ρ[j]?
  | [], _ => rfl
  | v :: vs, h => by
    simp only [List.mem_cons, not_or] at h
    unfold wipeS
    rw [List.getElem?_set_ne (Ne.symm h.1), wipeS_out h.2]
theorem wipeS_in {j : Nat} {s : Slot} : ∀ {vs : List Nat}, j ∈ vs → (wipeS ρ vs)[j]? = some s → s = .un
  | v :: vs, h, e => by
    unfold wipeS at e
    by_cases c : v = j
    · subst c
      rw [List.getElem?_set] at e
      rw [if_pos rfl] at e
      split at e
      · cases e; rfl
      · cases e
    · rw [List.getElem?_set_ne c] at e
      rcases List.mem_cons.mp h with z | z
      · exact absurd z.symm c
      · exact wipeS_in z e
theorem wipe_out' {j : Nat} : ∀ {vs : List Nat}, j ∉ vs → (wipe σ vs)[j]? = σ[j]?
  | [], _ => rfl
  | v :: vs, h => by
    simp only [List.mem_cons, not_or] at h
    unfold wipe
    rw [List.getElem?_set_ne (Ne.symm h.1), wipe_out' h.2]
theorem backS_length (ρ0 ρ : Sl) : ∀ vs : List Nat, (backS ρ0 ρ vs).length = ρ.length
  | [] => rfl
  | v :: vs => by
    unfold backS
    split
    · rw [List.length_set, backS_length ρ0 ρ vs]
    · exact backS_length ρ0 ρ vs
theorem backS_out {j : Nat} : ∀ {vs : List Nat}, j ∉ vs → (backS ρ0 ρ vs)[j]? = ρ[j]?
  | [], _ => rfl
  | v :: vs, h => by
    simp only [List.mem_cons, not_or] at h
    unfold backS
    split
    · rw [List.getElem?_set_ne (Ne.symm h.1), backS_out h.2]
    · exact backS_out h.2
theorem backS_in {j : Nat} (hj : j < ρ.length) (hl : ρ0.length = ρ.length) : ∀ {vs : List Nat}, j ∈ vs → (backS ρ0 ρ vs)[j]? = ρ0[j]?
  | v :: vs, h => by
    unfold backS
    by_cases c : v = j
    · subst c
      have : ρ0[v]? = some ρ0[v] := by simp [hl, hj]
      rw [this]
      simp only
      rw [List.getElem?_set_self (by rw [backS_length]; exact hj)]
    · have z : j ∈ vs := by
        rcases List.mem_cons.mp h with z | z
        · exact absurd z.symm c
        · exact z
      split
      · rw [List.getElem?_set_ne c]; exact backS_in hj hl z
      · exact backS_in hj hl z
theorem own_wipe {vs : List Nat} {a : Addr} (ho : noOwn ρ vs = true) (hσ : ∀ j, j ∉ vs → σ'[j]? = σ[j]?) : Own O0 σ' (wipeS ρ vs) a ↔ Own O0 σ ρ a := by
  constructor
  · rintro (h | ⟨i, d, e1, e2⟩)
    · exact .inl h
    · by_cases c : i ∈ vs
      · cases (wipeS_in c e1)
      · rw [wipeS_out c] at e1
        rw [hσ i c] at e2
        exact .inr ⟨i, d, e1, e2⟩
  · rintro (h | ⟨i, d, e1, e2⟩)
    · exact .inl h
    · have c := noOwn_at ho e1
      refine .inr ⟨i, d, ?_, ?_⟩
      · rw [wipeS_out c]; exact e1
      · rw [hσ i c]; exact e2
theorem StR.wipe {vs : List Nat} (s : StR p O0 H0 σ H ρ n) (ho : noOwn ρ vs = true) (hl : σ'.length = σ.length) (hσ : ∀ j, j ∉ vs → σ'[j]? = σ[j]?) : StR p O0 H0 σ' H (wipeS ρ vs) n := by
  have g : Gr (Own O0 σ ρ) H (Own O0 σ' (wipeS ρ vs)) H := fun a o no e => ⟨fun z => no ((own_wipe ho hσ).mp z), e⟩
  refine ⟨by rw [hl, wipeS_length, s.len], fun i d e => ?_, fun i d e => ?_, fun i j d e a h1 h2 h3 h4 => ?_, s.keep, s.o0, s.dk, s.at_⟩
  · by_cases c : i ∈ vs
    · cases (wipeS_in c e)
    · rw [wipeS_out c] at e
      obtain ⟨v, e1, r⟩ := s.val i d e
      exact ⟨v, by rw [hσ i c]; exact e1, Rp.gr g d v r⟩
  · by_cases c : i ∈ vs
    · cases (wipeS_in c e)
    · rw [wipeS_out c] at e
      obtain ⟨a, e1, w, n1, n2⟩ := s.own i d e
      exact ⟨a, by rw [hσ i c]; exact e1, w.gr g fun _ z => z, n1, n2⟩
  · by_cases c : i ∈ vs
    · cases (wipeS_in c h1)
    · by_cases c2 : j ∈ vs
      · cases (wipeS_in c2 h2)
      · rw [wipeS_out c] at h1
        rw [wipeS_out c2] at h2
        rw [hσ i c] at h3
        rw [hσ j c2] at h4
        exact s.sep i j d e a h1 h2 h3 h4
/-- behind a block: the slots vs as they were ahead of it -/
theorem StR.back {vs : List Nat} {O1 : Addr → Prop} {Hs : Hp} {m : Nat} (s0 : StR p O1 H0 σ Hs ρ0 m) (s : StR p O0 H0 σ' H ρ n) (h0 : noOwn ρ0 vs = true) (ho : noOwn ρ vs = true) (hσ : ∀ j, j ∉ vs → σ'[j]? = σ[j]?)
    (g0 : Gr (Own O1 σ ρ0) Hs (Own O0 σ' ρ) H) (hl : ρ0.length = ρ.length) : StR p O0 H0 σ H (backS ρ0 ρ vs) n ∧ ∀ a, Own O0 σ (backS ρ0 ρ vs) a ↔ Own O0 σ' ρ a := by
  have lσ : σ'.length = σ.length := by rw [s.len, s0.len, hl]
  have key : ∀ a, Own O0 σ (backS ρ0 ρ vs) a ↔ Own O0 σ' ρ a := fun a => by
    constructor
    · rintro (h | ⟨i, d, e1, e2⟩)
      · exact .inl h
      · by_cases c : i ∈ vs
        · have hi : i < ρ.length := by
            have := (List.getElem?_eq_some_iff.mp e1).1
            rwa [backS_length] at this
          rw [backS_in hi hl c] at e1
          exact absurd c (noOwn_at h0 e1)
        · rw [backS_out c] at e1
          exact .inr ⟨i, d, e1, by rw [hσ i c]; exact e2⟩
    · rintro (h | ⟨i, d, e1, e2⟩)
      · exact .inl h
      · have c := noOwn_at ho e1
        exact .inr ⟨i, d, by rw [backS_out c]; exact e1, by rw [← hσ i c]; exact e2⟩
  have g : Gr (Own O0 σ' ρ) H (Own O0 σ (backS ρ0 ρ vs)) H := fun a o no e => ⟨fun z => no ((key a).mp z), e⟩
  refine ⟨⟨by rw [backS_length, ← s.len, lσ], fun i d e => ?_, fun i d e => ?_, fun i j d e a h1 h2 h3 h4 => ?_, s.keep, s.o0, s.dk, s.at_⟩, key⟩
  · by_cases c : i ∈ vs
    · have hi : i < ρ.length := by
        have := (List.getElem?_eq_some_iff.mp e).1
        rwa [backS_length] at this
      rw [backS_in hi hl c] at e
      obtain ⟨v, e1, r⟩ := s0.val i d e
      exact ⟨v, e1, Rp.gr (g0.trans g) d v r⟩
    · rw [backS_out c] at e
      obtain ⟨v, e1, r⟩ := s.val i d e
      exact ⟨v, by rw [← hσ i c]; exact e1, Rp.gr g d v r⟩
  · by_cases c : i ∈ vs
    · have hi : i < ρ.length := by
        have := (List.getElem?_eq_some_iff.mp e).1
        rwa [backS_length] at this
      rw [backS_in hi hl c] at e
      exact absurd c (noOwn_at h0 e)
    · rw [backS_out c] at e
      obtain ⟨a, e1, w, n1, n2⟩ := s.own i d e
      exact ⟨a, by rw [← hσ i c]; exact e1, w.gr g fun _ z => z, n1, n2⟩
  · have out : ∀ i d, (backS ρ0 ρ vs)[i]? = some (.own d) → i ∉ vs ∧ ρ[i]? = some (.own d) := fun i d e => by
      by_cases c : i ∈ vs
      · have hi : i < ρ.length := by
          have := (List.getElem?_eq_some_iff.mp e).1
          rwa [backS_length] at this
        rw [backS_in hi hl c] at e
        exact absurd c (noOwn_at h0 e)
      · exact ⟨c, by rw [backS_out c] at e; exact e⟩
    obtain ⟨c1, f1⟩ := out i d h1
    obtain ⟨c2, f2⟩ := out j e h2
    exact s.sep i j d e a f1 f2 (by rw [hσ i c1]; exact h3) (by rw [hσ j c2]; exact h4)
/-- an address to keep off is written -/
theorem StR.poke {q : Addr} {o : HO} (s : StR p O0 H0 σ H ρ n) (h : O0 q) (nd : ¬ p.dk q) (h0 : H0 q = none) : StR p O0 H0 σ (upd H q o) ρ n ∧ Gr (Own O0 σ ρ) H (Own O0 σ ρ) (upd H q o) := by
  have kn : ∀ b u, b ≠ q → H b = some u → upd H q o b = some u := fun b u ne e => by rw [upd_ne ne]; exact e
  have g : Gr (Own O0 σ ρ) H (Own O0 σ ρ) (upd H q o) := fun a u no e => ⟨no, kn a u (fun z => no (.inl (z ▸ h))) e⟩
  refine ⟨⟨s.len, fun i d e => ?_, fun i d e => ?_, s.sep, fun a u hd e => kn a u (fun z => by subst z; rw [h0] at e; cases e) (s.keep a u hd e), fun a z => ?_, s.dk, p.keep n H _ (fun a u hd e => kn a u (fun z => nd (z ▸ hd)) e) s.at_⟩, g⟩
  · obtain ⟨v, e1, r⟩ := s.val i d e
    exact ⟨v, e1, Rp.gr g d v r⟩
  · obtain ⟨a, e1, w, n1, n2⟩ := s.own i d e
    exact ⟨a, e1, w.gr g (fun u eu => kn a u (fun z => n1 (z ▸ h)) eu), n1, n2⟩
  · by_cases c : a = q
    · subst c; exact ⟨o, upd_same⟩
    · obtain ⟨u, e⟩ := s.o0 a z
      exact ⟨u, kn a u c e⟩
end

def compW (wg : WG) (wt : WT) (we : WE) (vs : List Nat) : List D → List D → Sl → Nat → (List D → Sl → Nat → Prop) → Prop
  | [], acc, ρ, n, Q => Q acc ρ n
  | d :: ds, acc, ρ, n, Q => wg d ρ n fun ρ1 n1 => wt ρ1 n1 fun b ρ2 n2 =>
    if b = true then we ρ2 n2 fun y ρ3 n3 => acc.length < 100000 ∧ noOwn ρ3 vs = true ∧ compW wg wt we vs ds (acc ++ [y]) (wipeS ρ3 vs) n3 Q
    else noOwn ρ2 vs = true ∧ compW wg wt we vs ds acc (wipeS ρ2 vs) n2 Q
def wLc (wi : WI) (wg : WG) (wt : WT) (we : WE) (vs : List Nat) : WE := fun ρ n Q => wi ρ n fun ds ρ1 n1 => noOwn ρ1 vs = true ∧ compW wg wt we vs ds [] (wipeS ρ1 vs) n1 fun acc ρ2 n2 => noOwn ρ2 vs = true ∧ ρ2.length = ρ1.length ∧ Q (.lst acc) (backS ρ1 ρ2 vs) n2
structure PDTs (p : Par) (X : Cx) (ifs : List Expr) (t : TT) (w : WT) : Prop where
  pt : PTs X ifs t
  sim : SimT p t w
def vYes : WT := fun ρ n Q => Q true ρ n
theorem pdts_nil {p : Par} {X : Cx} : PDTs p X [] tYes vYes := ⟨pts_nil, fun O0 H0 σ H ρ n Q QV S hw k => k true ρ n H hw S Ext.refl⟩
theorem pdts_one {p : Par} {X : Cx} {c : Expr} {t : TT} {w : WT} (h : PDT p X c t w) : PDTs p X [c] t w := ⟨pts_one h.pt, h.sim⟩
section
variable {p : Par} {X : Cx} {elt tg iter : Expr} {ifs : List Expr} {scope : Scope} {own : List (Str × Nat)} {pos : Pos} {ti : TI} {g : TG} {tt : TT} {te : TE} {wi : WI} {wg : WG} {wt : WT} {we : WE} {gs : List Nat}
theorem wipe_only {σ σ2 : St} {vs : List Nat} (h : Only gs (wipe σ vs) σ2) (hs : ∀ i ∈ gs, i ∈ vs) : wipe σ2 vs = wipe σ vs := by
  apply List.ext_getElem?
  intro j
  by_cases c : j ∈ vs
  · have key : ∀ {τ : St} {us : List Nat}, j ∈ us → (wipe τ us)[j]? = if j < τ.length then some none else none := by
      intro τ us
      induction us with
      | nil => intro z; cases z
      | cons u us ih =>
        intro z
        unfold wipe
        by_cases e : u = j
        · subst e
          rw [List.getElem?_set, if_pos rfl, wipe_length]
        · rw [List.getElem?_set_ne e]
          rcases List.mem_cons.mp z with z | z
          · exact absurd z.symm e
          · exact ih z
    rw [key c, key c]
    have := h.1
    rw [wipe_length] at this
    rw [this]
  · rw [wipe_out' c, h.2 j (fun z => c (hs j z))]
theorem sim_lc {vs : List Nat} (hi : SimI p ti wi) (hg : SimG p gs g wg) (ht : SimT p tt wt) (he : SimE p te we) (hs : ∀ i ∈ gs, i ∈ vs) : SimF p (tLc ti g tt te vs) (wLc wi wg wt we vs) := by
  intro O0 H0 σ H ρ n Q QV S hw k
  refine hi O0 H0 σ H ρ n _ _ S hw fun ds ρ1 n1 J H1 q1 S1 I1 x1 => ?_
  intro D hD
  obtain ⟨hno, q1⟩ := q1
  obtain ⟨G, Y, wk, hG, hY⟩ := I1.ex
  have nO : ¬ O0 D := fun z => S1.notOwn hD (.inl z)
  have nd : ¬ p.dk D := fun z => nO (S1.dk D z)
  have h0D : H0 D = none := S1.h0 hD
  have xF := S1.extF (o := .lst []) hD
  have SF := S1.fresh (o := .lst []) hD
  have hσw : ∀ j, j ∉ vs → (wipe σ vs)[j]? = σ[j]? := fun j c => wipe_out' c
  have SW := SF.wipe (vs := vs) (σ' := wipe σ vs) hno (wipe_length σ vs) hσw
  have gW : Gr (Own (And1 O0 D) σ ρ1) (upd H1 D (.lst [])) (Own (And1 O0 D) (wipe σ vs) (wipeS ρ1 vs)) (upd H1 D (.lst [])) := fun a o no e => ⟨fun z => no ((own_wipe hno hσw).mp z), e⟩
  -- the invariant
  refine lc_it (vs := vs) wk (fun i Ha => ∃ ρ' n' acc us, StR p (And1 O0 D) H0 (wipe σ vs) Ha ρ' n' ∧ Ha D = some (.lst us) ∧ RpL p (Own (And1 O0 D) (wipe σ vs) ρ') Ha acc us ∧ Gr (Own O0 σ ρ1) H1 (Own (And1 O0 D) (wipe σ vs) ρ') Ha ∧
      (∀ a o, O0 a → ¬ p.dk a → H1 a = some o → Ha a = some o) ∧ compW wg wt we vs (ds.drop i) acc ρ' n' fun acc ρ2 n2 => noOwn ρ2 vs = true ∧ ρ2.length = ρ1.length ∧ Q (.lst acc) (backS ρ1 ρ2 vs) n2)
    ⟨wipeS ρ1 vs, n1, [], [], SW, upd_same, rfl, xF.gr.trans gW, xF.kp, by simpa using q1⟩ (fun i Ha _ ⟨ρ', n', _, _, _, _, _, x, _⟩ => hG _ _ x) ?_ ?_
  · rintro i v Ha Hb hlt ⟨ρ', n', acc, us, S', eD, rA, gA, kA, cw⟩ y
    obtain ⟨kb, rv⟩ := hY i _ Ha v Hb ds[i] gA (fun a z => S'.there z) y (by simp [hlt])
    have Sb := S'.grow kb
    have gb : Gr (Own (And1 O0 D) (wipe σ vs) ρ') Ha (Own (And1 O0 D) (wipe σ vs) ρ') Hb := fun a o no e => ⟨no, kb a o e⟩
    rw [List.drop_eq_getElem_cons hlt] at cw
    refine hg (And1 O0 D) H0 (wipe σ vs) Hb ρ' n' ds[i] v _ _ Sb rv cw fun σ2 ρ2 n2 q2 S2 o2 x2 => ?_
    have hw2 := wipe_only o2 hs
    refine ⟨hw2, ht (And1 O0 D) H0 σ2 Hb ρ2 n2 _ _ S2 q2 fun b ρ3 n3 H3 q3 S3 x3 => ?_⟩
    have l2 : (wipe σ vs).length = σ2.length := by rw [← hw2, wipe_length]
    have hσ2 : ∀ j, j ∉ vs → (wipe σ vs)[j]? = σ2[j]? := fun j c => by rw [← hw2, wipe_out' c]
    have g23 := (gA.trans gb).trans (x2.gr.trans x3.gr)
    have k23 : ∀ a o, O0 a → ¬ p.dk a → H1 a = some o → H3 a = some o := fun a o z d e => x3.kp a o (.inl z) d (x2.kp a o (.inl z) d (kb a o (kA a o z d e)))
    have d3 : H3 D = some (.lst us) := x3.kp D _ (.inr rfl) nd (x2.kp D _ (.inr rfl) nd (kb D _ eD))
    have r3 := RpL.gr (gb.trans (x2.gr.trans x3.gr)) _ _ rA
    cases b with
    | false =>
      refine iteF ?_
      rw [if_neg Bool.false_ne_true] at q3
      obtain ⟨no3, cw3⟩ := q3
      have S4 := S3.wipe (vs := vs) (σ' := wipe σ vs) no3 l2 hσ2
      have g4 : Gr (Own (And1 O0 D) σ2 ρ3) H3 (Own (And1 O0 D) (wipe σ vs) (wipeS ρ3 vs)) H3 := fun a o no e => ⟨fun z => no ((own_wipe no3 hσ2).mp z), e⟩
      exact ⟨wipeS ρ3 vs, n3, acc, us, S4, d3, RpL.gr g4 _ _ r3, g23.trans g4, k23, cw3⟩
    | true =>
      refine iteT ?_
      rw [if_pos rfl] at q3
      refine he (And1 O0 D) H0 σ2 H3 ρ3 n3 _ _ S3 q3 fun yv ρ4 n4 v4 H4 q4 S4 r4 x4 => ?_
      obtain ⟨hl4, no4, cw4⟩ := q4
      have d4 : H4 D = some (.lst us) := x4.kp D _ (.inr rfl) nd d3
      have r4' := RpL.gr x4.gr _ _ r3
      refine ⟨us, d4, Nat.lt_of_lt_of_le (by rw [← r4'.length]; exact hl4) (le_line (Nat.le_refl _)), ?_⟩
      obtain ⟨S5, g5⟩ := S4.poke (q := D) (o := .lst (us ++ [v4])) (.inr rfl) nd h0D
      have S6 := S5.wipe (vs := vs) (σ' := wipe σ vs) no4 l2 hσ2
      have g6 : Gr (Own (And1 O0 D) σ2 ρ4) (upd H4 D (.lst (us ++ [v4]))) (Own (And1 O0 D) (wipe σ vs) (wipeS ρ4 vs)) (upd H4 D (.lst (us ++ [v4]))) := fun a o no e => ⟨fun z => no ((own_wipe no4 hσ2).mp z), e⟩
      have neD : ∀ a, O0 a → a ≠ D := fun a z c => nO (c ▸ z)
      exact ⟨wipeS ρ4 vs, n4, acc ++ [yv], us ++ [v4], S6, upd_same, (RpL.gr (g5.trans g6) _ _ r4').append (.cons (Rp.gr (g5.trans g6) _ _ r4) rfl), (g23.trans x4.gr).trans (g5.trans g6),
        fun a o z d e => by rw [upd_ne (neD a z)]; exact x4.kp a o (.inl z) d (k23 a o z d e), cw4⟩
  · rintro Ha ⟨ρ', n', acc, us, S', eD, rA, gA, kA, cw⟩
    rw [List.drop_length] at cw
    obtain ⟨no', hl', q⟩ := cw
    obtain ⟨S7, key⟩ := S1.back (vs := vs) S' hno no' hσw gA hl'.symm
    have g7 : Gr (Own (And1 O0 D) (wipe σ vs) ρ') Ha (Own (And1 O0 D) σ (backS ρ1 ρ' vs)) Ha := fun a o no e => ⟨fun z => no ((key a).mp z), e⟩
    exact k (.lst acc) _ n' D Ha q S7 ⟨us, eD, RpL.gr g7 _ _ rA⟩ h0D nO ⟨x1.gr.trans (gA.trans g7), fun a o z d e => kA a o z d (x1.kp a o z d e)⟩
theorem pdf_lc (own : List (Str × Nat)) (hc : X.calm = true) (hN : X.N.Nodup) (hi : PDI p X tg iter ti wi) (ok : blkC X.N X.env.scope scope own = true)
    (hg : ∀ (s : Shared) (H : Hp) (C : Addr) (cl : List (Str × Addr)) (fp : List Addr), PDG p (X.blk s H scope (compEnvC scope cl C X.env) fp) tg gs g wg) (ht : ∀ (s : Shared) (H : Hp) (C : Addr) (cl : List (Str × Addr)) (fp : List Addr), PDTs p (X.blk s H scope (compEnvC scope cl C X.env) fp) ifs tt wt)
    (he : ∀ (s : Shared) (H : Hp) (C : Addr) (cl : List (Str × Addr)) (fp : List Addr), PD p (X.blk s H scope (compEnvC scope cl C X.env) fp) elt te we) (hgs : ∀ i ∈ gs, i ∈ own.map (·.2) := by decide) (hs : ∀ x, foldedSetIterable iter X.env x = pure x := by intro _; rfl) :
    PDF p X (.ListComp elt [⟨tg, iter, ifs, 0⟩] scope pos) (tLc ti g tt te (own.map (·.2))) (wLc wi wg wt we (own.map (·.2))) :=
  ⟨pe_lc hc hN hi.pi (blkOk_by ok) (fun s H C cl fp => (hg s H C cl fp).pg) (fun s H C cl fp => (ht s H C cl fp).pt) (fun s H C cl fp => (he s H C cl fp).pe) hs,
    sim_lc hi.sim (hg {} (fun _ => none) 0 [] []).sim (ht {} (fun _ => none) 0 [] []).sim (he {} (fun _ => none) 0 [] []).sim hgs⟩
/-- name = [..], the name a local -/
theorem pds_setLc (i : Nat) (own : List (Str × Nat)) {y : Str} {py spos : Pos} (hc : X.calm = true) (hN : X.N.Nodup) (hi : PDI p X tg iter ti wi) (ok : blkC X.N X.env.scope scope own = true)
    (hg : ∀ (s : Shared) (H : Hp) (C : Addr) (cl : List (Str × Addr)) (fp : List Addr), PDG p (X.blk s H scope (compEnvC scope cl C X.env) fp) tg gs g wg) (ht : ∀ (s : Shared) (H : Hp) (C : Addr) (cl : List (Str × Addr)) (fp : List Addr), PDTs p (X.blk s H scope (compEnvC scope cl C X.env) fp) ifs tt wt)
    (he : ∀ (s : Shared) (H : Hp) (C : Addr) (cl : List (Str × Addr)) (fp : List Addr), PD p (X.blk s H scope (compEnvC scope cl C X.env) fp) elt te we) (hy : X.N[i]? = some y := by rfl) (hyl : X.env.scope.names.lookup y = some .local := by rfl)
    (hsw : swapsWith (.ListComp elt [⟨tg, iter, ifs, 0⟩] scope pos) (some (.Name y py)) spos.line X.env = pure true := by exact sw_true rfl rfl rfl (by decide +kernel)) (hgs : ∀ i ∈ gs, i ∈ own.map (·.2) := by decide) (hs : ∀ x, foldedSetIterable iter X.env x = pure x := by intro _; rfl) :
    PDS p X (.Assign [.Name y py] (.ListComp elt [⟨tg, iter, ifs, 0⟩] scope pos) spos) [i] (tAsg (tLc ti g tt te (own.map (·.2))) (gName i)) (wSetO i (wLc wi wg wt we (own.map (·.2)))) :=
  ⟨ps_setLc hc hN hy hyl hsw hi.pi (blkOk_by ok) (fun s H C cl fp => (hg s H C cl fp).pg) (fun s H C cl fp => (ht s H C cl fp).pt) (fun s H C cl fp => (he s H C cl fp).pe) hs,
    sim_setO i (sim_lc hi.sim (hg {} (fun _ => none) 0 [] []).sim (ht {} (fun _ => none) 0 [] []).sim (he {} (fun _ => none) 0 [] []).sim hgs)⟩
end
end DL
end
section
namespace DL
open PySem L2
open PyProof.Rows (envOfC)

section
variable {p : Par} {X : Cx} {e o v : Expr} {es : List Expr} {te tv : TE} {we wv : WE} {t : TA} {w : WA} {pos p1 : Pos} {f C g : Addr} {fd : FuncData} {ps : List Str} {k N : Nat} {wf : WF} {dvs : List V} {dfs : List Value} {x : Str}
def onO (c m : String) (d : D) (Q : Prop) : Prop := match d with
  | .obj c' ns _ => c' = c ∧ m ∉ ns ∧ Q
  | _ => False
@[simp] theorem onO_obj (c m c' : String) (ns : List String) (ds : List D) (Q : Prop) : onO c m (.obj c' ns ds) Q = (c' = c ∧ m ∉ ns ∧ Q) := rfl
theorem onO_get {c m : String} {d : D} {Q : Prop} (h : onO c m d Q) : ∃ ns ds, d = .obj c ns ds ∧ m ∉ ns ∧ Q := by
  cases d with
  | obj c' ns ds => obtain ⟨rfl, h⟩ := h; exact ⟨ns, ds, rfl, h⟩
  | _ => exact h.elim
theorem notin_str {m : String} {ns : List String} {xs : List (Str × V)} (e : xs.map (·.1) = ns.map Str.ofString) (h : m ∉ ns) : xs.lookup (Str.ofString m) = none :=
  lookup_notin (by rw [e]; exact fun z => h (by obtain ⟨a, ha, e⟩ := List.mem_map.mp z; rw [← ofString_inj e]; exact ha))
def wMeth (c m : String) (wf : WF) (dds : List D) (we : WE) (w : WA) : WE := fun ρ n Q => we ρ n fun d ρ1 n1 => onO c m d (w ρ1 n1 fun as ρ2 n2 => wf (d :: (as ++ dds)) n2 fun r n3 => Q r ρ2 n3)
theorem sim_meth {c m : String} {dds : List D} (cp : ClsP p c C) (hdd : ∀ O H, RpL p O H dds dvs) (he : SimE p te we) (ha : SimA p t w) : SimE p (tMeth C m (spW p N wf) dvs E0 te t) (wMeth c m (wLen N wf) dds we w) := by
  intro O0 H0 σ H ρ n Q QV S hw kk
  refine he O0 H0 σ H ρ n _ _ S hw fun d ρ1 n1 x H1 q1 S1 r1 x1 => ?_
  obtain ⟨ns, ds, rfl, hn, q⟩ := onO_get q1
  obtain ⟨a, C', dx, xs, rfl, m1, h1, hc, en, rl⟩ := id r1
  rw [cp.at_] at hc; cases hc
  refine ⟨a, dx, xs, rfl, h1, notin_str en hn, ha O0 H0 σ H1 ρ1 n1 _ _ S1 q fun as ρ2 n2 vs H2 q2 S2 r2 x2 => ?_⟩
  exact call_asks S2 (.cons (Rp.gr x2.gr _ _ r1) (r2.append (hdd _ _))) q2.1 q2.2 fun d' n3 v H3 q' S' rv x3 => kk d' ρ2 n3 v H3 q' S' rv ((x1.trans x2).trans x3)
theorem pd_meth {apos : Pos} (c m : String) (dds : List D) (cp : ClsP p c C) (hm : Meth X.K C m f) (hc : Cls X.K C) (F : FnOk X.prog X.w X.K X.mg X.base CX0 k f fd ps (spW p N wf)) (hr : Room k X.A) (hb : Binds X.K fd ps dfs) (hd : L2.Vals dvs dfs) (hdd : ∀ O H, RpL p O H dds dvs) (he : PD p X o te we) (ha : PDA p X (e :: es) t w)
    (pm : PE X (.Call (.Attribute o (Str.ofString m) apos) (e :: es) [] pos) (tMeth C m (spW p N wf) dvs E0 te t)) : PD p X (.Call (.Attribute o (Str.ofString m) apos) (e :: es) [] pos) (tMeth C m (spW p N wf) dvs E0 te t) (wMeth c m (wLen N wf) dds we w) :=
  ⟨pm, sim_meth cp hdd he.sim ha.sim⟩
theorem pd_meth0 {apos : Pos} (c m : String) (cp : ClsP p c C) (pm : PE X (.Call (.Attribute o (Str.ofString m) apos) [] [] pos) (tMeth C m (spW p N wf) [] E0 te tNil)) (he : PD p X o te we) : PD p X (.Call (.Attribute o (Str.ofString m) apos) [] [] pos) (tMeth C m (spW p N wf) [] E0 te tNil) (wMeth c m (wLen N wf) [] we wNil) :=
  ⟨pm, sim_meth cp (fun _ _ => rfl) he.sim sim_nil⟩
/-- o.f, a property -/
def wProp (c : String) (wf : WF) (we : WE) : WE := fun ρ n Q => we ρ n fun d ρ1 n1 => match d with
  | .obj c' _ _ => c' = c ∧ wf [d] n1 fun r n2 => Q r ρ1 n2
  | _ => False
theorem pd_prop {f : String} {q : Addr} (c : String) (cp : ClsP p c C) (hc : Cls X.K C) (hp : PropOf X.K C f q g) (F : FnOk X.prog X.w X.K X.mg X.base CX0 k g fd ps (spW p 1 wf)) (hr : Room (k + 1) X.A) (hb : Binds X.K fd ps []) (he : PD p X e te we)
    (hab : attributeBase e (Str.ofString f) X.env (eval e X.env) = eval e X.env := by rfl) : PD p X (.Attribute e (Str.ofString f) pos) (tProp C (spW p 1 wf) [] E0 te) (wProp c wf we) := by
  refine ⟨pe_prop he.pe hc hp F hr hb .nil pass0 hab, fun O0 H0 σ H ρ n Q QV S hw kk => ?_⟩
  refine he.sim O0 H0 σ H ρ n _ _ S hw fun d ρ1 n1 x H1 q1 S1 r1 x1 => ?_
  split at q1
  · obtain ⟨rfl, q⟩ := q1
    obtain ⟨a, C', dx, xs, rfl, m1, h1, hc', en, rl⟩ := id r1
    rw [cp.at_] at hc'; cases hc'
    exact ⟨a, dx, xs, rfl, h1, call_asks (ds := [_]) S1 (.cons r1 rfl) rfl q fun d' n3 v H3 q' S' rv x3 => kk d' ρ1 n3 v H3 q' S' rv (x1.trans x3)⟩
  · exact q1.elim

abbrev WI0 := List D → Nat → (D → Nat → Prop) → Prop
/-- what an __init__ promises: self a new instance, behind it it is what q says -/
def spI (p : Par) (N : Nat) (C : Addr) (w : WI0) : Sp := fun vs H Q _ => ∃ (O0 : Addr → Prop) (a dx : Addr) (ds : List D) (us : List V) (n : Nat) (q : D → Nat → Prop), vs = .ref a :: us ∧ H a = some (.ins C dx []) ∧ ¬ O0 a ∧ (∀ b, O0 b → ∃ o, H b = some o) ∧ (∀ b, p.dk b → O0 b) ∧ p.At n H ∧
  RpL p (And1 O0 a) H ds us ∧ ds.length = N ∧ w ds n q ∧ ∀ d n' H', q d n' → (∀ b o, b ≠ a → ¬ p.dk b → H b = some o → H' b = some o) → p.At n' H' → Rp p O0 H' d (.ref a) → Q .non H'
def wMake (wi : WI0) (dds : List D) (w : WA) : WE := fun ρ n Q => w ρ n fun as ρ1 n1 => wi (as ++ dds) n1 fun d n2 => Q d ρ1 n2
theorem make_asks {O0 : Addr → Prop} {H0 H1 : Hp} {σ : St} {ρ : Sl} {n : Nat} {ds : List D} {vs : List V} {wi : WI0} {Q : WQ} {QV : VK} (S : StR p O0 H0 σ H1 ρ n) (r : RpL p (Own O0 σ ρ) H1 ds vs) (hl : ds.length = N) (hw : wi ds n fun d n2 => Q d ρ n2)
    (kk : ∀ d n2 v H', Q d ρ n2 → StR p O0 H0 σ H' ρ n2 → Rp p (Own O0 σ ρ) H' d v → Ext p O0 (Own O0 σ ρ) H1 (Own O0 σ ρ) H' → QV v H') {y dx : Addr} (hy : H1 y = none) (hdx : H1 dx = none) (ne : dx ≠ y) : spI p N C wi (.ref y :: vs) (upd (upd H1 dx (.own y)) y (.ins C dx [])) (fun v H2 => v = .non ∧ QV (.ref y) H2) E0 := by
  have hy1 : upd H1 dx (.own y) y = none := by rw [upd_ne (Ne.symm ne)]; exact hy
  have S2 := (S.alloc (o := .own y) hdx).alloc (o := .ins C dx []) hy1
  have x2 : ∀ b o, H1 b = some o → upd (upd H1 dx (.own y)) y (.ins C dx []) b = some o := fun b o e => keep_new hy1 b o (keep_new hdx b o e)
  refine ⟨Own O0 σ ρ, y, dx, ds, vs, n, _, rfl, upd_same, S.notOwn hy, fun b z => S2.there z, fun b z => .inl (S.dk b z), S2.at_, ?_, hl, hw, fun d n' H' q kp at' rv => ⟨rfl, ?_⟩⟩
  · refine RpL.gr (fun b o no e => ⟨fun z => ?_, x2 b o e⟩) _ _ r
    rcases z with z | z
    · exact no z
    · exact ne_of_none e hy z
  · have kp' : ∀ b o, ¬ p.dk b → H1 b = some o → H' b = some o := fun b o nd e => kp b o (ne_of_none e hy) nd (x2 b o e)
    exact kk d n' _ H' q (S.move kp' at') rv (S.ext kp')
variable {wi : WI0}
theorem pd_make (dds : List D) (M : Mk X.K C f) (F : FnOk X.prog X.w X.K X.mg X.base CX0 k f fd ps (spI p N C wi)) (hr : Room (k + 1) X.A) (hm : X.mg x = some (.ref C)) (hb : Binds X.K fd ps dfs) (hd : L2.Vals dvs dfs) (hdd : ∀ O H, RpL p O H dds dvs) (ha : PDA p X (e :: es) t w)
    (pm : PE X (.Call (.Name x p1) (e :: es) [] pos) (tMake C (spI p N C wi) dvs E0 t)) : PD p X (.Call (.Name x p1) (e :: es) [] pos) (tMake C (spI p N C wi) dvs E0 t) (wMake (wLen N wi) dds w) := by
  refine ⟨pm, fun O0 H0 σ H ρ n Q QV S hw kk => ?_⟩
  refine ha.sim O0 H0 σ H ρ n _ _ S hw fun ds ρ1 n1 vs H1 q1 S1 r1 x1 => ?_
  intro y dx hy hdx ne
  exact make_asks S1 (r1.append (hdd _ _)) q1.1 q1.2 (fun d n2 v H' q S' rv x2 => kk d ρ1 n2 v H' q S' rv (x1.trans x2)) hy hdx ne

def putN (f : String) : List String → List String
  | [] => [f]
  | n :: ns => if n = f then n :: ns else n :: putN f ns
def putDs (f : String) (d : D) : List String → List D → List D
  | n :: ns, d0 :: ds => if n = f then d :: ds else d0 :: putDs f d ns ds
  | _, _ => [d]
theorem putF_rp {O : Addr → Prop} {H : Hp} {f : String} {d : D} {v : V} (rv : Rp p O H d v) : ∀ {ns : List String} {ds : List D} {xs : List (Str × V)}, xs.map (·.1) = ns.map Str.ofString → RpL p O H ds (xs.map (·.2)) →
    (putF (Str.ofString f) v xs).map (·.1) = (putN f ns).map Str.ofString ∧ RpL p O H (putDs f d ns ds) ((putF (Str.ofString f) v xs).map (·.2))
  | [], ds, [], _, r => by
    have : ds = [] := by
      cases ds with
      | nil => rfl
      | cons _ _ => obtain ⟨_, _, h, _⟩ := r; cases h
    subst this
    exact ⟨rfl, .cons rv rfl⟩
  | [], _, _ :: _, e, _ => by cases e
  | _ :: _, _, [], e, _ => by cases e
  | n :: ns, ds, (m, u) :: xs, e, r => by
    simp only [List.map_cons, List.cons.injEq] at e
    obtain ⟨rfl, e⟩ := e
    cases ds with
    | nil => cases r
    | cons d0 ds =>
      obtain ⟨y, yr, e2, r1, r2⟩ := r
      simp only [List.map_cons, List.cons.injEq] at e2
      obtain ⟨rfl, rfl⟩ := e2
      unfold putN putDs
      rw [show putF (Str.ofString f) v ((Str.ofString n, u) :: xs) = (if Str.ofString n = Str.ofString f then (Str.ofString n, v) :: xs else (Str.ofString n, u) :: putF (Str.ofString f) v xs) from rfl]
      by_cases c : n = f
      · subst c
        rw [if_pos rfl, if_pos rfl, if_pos rfl]
        exact ⟨by simp [e], .cons rv r2⟩
      · rw [if_neg c, if_neg c, if_neg (fun z => c (ofString_inj z))]
        obtain ⟨h1, h2⟩ := putF_rp rv e r2
        exact ⟨by simp [h1], .cons r1 h2⟩
def wFldS (i : Nat) (c f : String) (we : WE) : WS := fun q ρ n => we ρ n fun d ρ1 n1 => match ρ1[i]? with
  | some (.own (.obj c' ns ds)) => c' = c ∧ ns.length < 100 ∧ q.nx (ρ1.set i (.own (.obj c (putN f ns) (putDs f d ns ds)))) n1
  | _ => False
theorem pds_fld {f : String} {pos' pos2 : Pos} (i : Nat) (c : String) (hK : X.K = p.K) (cp : ClsP p c C) (nf : NoAttr p.K C f) (he : PD p X e te we) (hN : X.N[i]? = some x := by rfl) (hv : Vis X.env.scope x := by first | exact Or.inl rfl | exact Or.inr (Or.inl rfl) | exact Or.inr (Or.inr rfl)) (hd : (x == ("__debug__" : Str)) = false := by decide)
    (hcd : (x == ("__classdict__" : Str)) = false := by decide) (hs : swapsWith e (some (.Attribute (.Name x pos2) (Str.ofString f) pos')) pos.line X.env = pure false := by rfl) : PDS p X (.Assign [.Attribute (.Name x pos2) (Str.ofString f) pos'] e pos) [] (sFld p.K (tVar i) te f) (wFldS i c f we) := by
  refine ⟨by rw [← hK]; exact ps_fld (pv i hN hv hd hcd) he.pe hs, fun O0 H0 σ H ρ n q E S hw r => ?_⟩
  refine he.sim O0 H0 σ H ρ n _ _ S hw fun d ρ1 n1 y H1 q1 S1 r1 x1 => ?_
  split at q1
  · rename_i c' ns ds e1
    obtain ⟨rfl, hl, q2⟩ := q1
    obtain ⟨a, e2, w0, m1, m2⟩ := S1.own i _ e1
    obtain ⟨C', dx, xs, h1, hc, en, rl⟩ := w0
    rw [cp.at_] at hc; cases hc
    have lx : xs.length = ns.length := by
      have := congrArg List.length en
      simpa using this
    refine ⟨.ref a, e2, a, C, dx, xs, rfl, h1, cp.cl, nf, by omega, ?_⟩
    obtain ⟨S2, x2⟩ := S1.change (o := .ins C dx (putF (Str.ofString f) y xs)) (d' := .obj c' (putN f ns) (putDs f d ns ds)) e1 e2 fun O' H' gr eo => by
      obtain ⟨g1, g2⟩ := putF_rp (Rp.gr gr _ _ r1) en (RpL.gr gr _ _ rl)
      exact ⟨C, dx, _, eo, cp.at_, g1, g2⟩
    exact r.nx σ _ _ n1 q2 S2 (x1.trans x2) Only.refl
  · exact q1.elim
end

section
variable {P : Program} {w : World} {K : PySem.W.Frag} {mg : Str → Option Value} {base : Heap} {p : Par}
def slots0 (ds : List D) (k : Nat) : Sl := ds.map Slot.val ++ List.replicate k .un
theorem slots_val {ds : List D} {k i : Nat} {d : D} (h : (slots0 ds k)[i]? = some (.val d)) : ds[i]? = some d := by
  unfold slots0 at h
  by_cases hi : i < ds.length
  · rw [List.getElem?_append_left (by simpa using hi), List.getElem?_map] at h
    obtain ⟨x, e1, e2⟩ := Option.map_eq_some_iff.mp h
    cases e2
    exact e1
  · rw [List.getElem?_append_right (by simpa using hi), List.getElem?_replicate] at h
    split at h <;> cases h
theorem slots_own {ds : List D} {k i : Nat} {d : D} : (slots0 ds k)[i]? ≠ some (.own d) := fun h => by
  unfold slots0 at h
  by_cases hi : i < ds.length
  · rw [List.getElem?_append_left (by simpa using hi), List.getElem?_map] at h
    obtain ⟨x, e1, e2⟩ := Option.map_eq_some_iff.mp h
    cases e2
  · rw [List.getElem?_append_right (by simpa using hi), List.getElem?_replicate] at h
    split at h <;> cases h
theorem start_get {Ns : List Str} {vs : List V} {i : Nat} {v : V} (h : vs[i]? = some v) : (L2.start Ns vs)[i]? = some (some v) := by
  unfold L2.start
  have hi := (List.getElem?_eq_some_iff.mp h).1
  rw [List.getElem?_append_left (by simpa using hi), List.getElem?_map, h]
  rfl
theorem stR_start {O0 : Addr → Prop} {H : Hp} {Ns : List Str} {ds : List D} {vs : List V} {n N : Nat} (th : ∀ a, O0 a → ∃ o, H a = some o) (hdk : ∀ a, p.dk a → O0 a) (at' : p.At n H) (r : RpL p O0 H ds vs) (hl : ds.length = N) (hN : N ≤ Ns.length) : StR p O0 H (L2.start Ns vs) H (slots0 ds (Ns.length - N)) n := by
  have own : ∀ a, Own O0 (L2.start Ns vs) (slots0 ds (Ns.length - N)) a → O0 a := fun a z => by
    rcases z with z | ⟨i, d, e1, _⟩
    · exact z
    · exact absurd e1 slots_own
  have g : Gr O0 H (Own O0 (L2.start Ns vs) (slots0 ds (Ns.length - N))) H := fun a o no e => ⟨fun z => no (own a z), e⟩
  refine ⟨?_, fun i d e => ?_, fun i d e => absurd e slots_own, fun i j d e a h1 _ _ _ => absurd h1 slots_own, fun a o _ e => e, th, hdk, at'⟩
  · have := r.length
    unfold L2.start slots0
    simp
    omega
  · obtain ⟨v, e1, rv⟩ := r.get (slots_val e)
    exact ⟨v, start_get e1, Rp.gr g d v rv⟩
/-- a def that raises nothing -/
theorem fnD {x qual : Str} {st : Stmt} {f : Addr} {fd : FuncData} {Ns ps : List Str} {k : Nat} {wf : WF} (N : Nat) (F : Fun K x qual st f fd) (S : FnScope Ns ps (defScope st)) (hN : N = ps.length)
    (hb : ∀ (cdv : Value) (A : Around) (outer : List PySem.Env) (s : Shared) (H : Hp) (E : XK), Room k (A.deeper (envOfC qual (defScope st) s.heap.objs.size f cdv)) →
      ∃ gs t W, PDB p (cxOf CX0 P w K mg base Ns qual (defScope st) f cdv A outer s H E).nox (defBody st) gs t W ∧ ∀ ds n q, ds.length = N → wf ds n q → W { nx := fun _ n => q .non n, rt := q } (slots0 ds (Ns.length - N)) n) :
    FnOk P w K mg base CX0 (k + 1) f fd ps (spW p N wf) := by
  refine F.ok S (fun vs H Q E h => ?_) (fun cdv A outer s H vs Q E hr h => ?_)
  · obtain ⟨O0, ds, n, q, _, _, _, r, hl, _⟩ := h
    rw [← r.length, hl, hN]
  · obtain ⟨gs, t, W, pb, hW⟩ := hb cdv A outer s H E hr
    obtain ⟨O0, ds, n, q, th, hdk, at', r, hl, hw, fin⟩ := h
    refine ⟨t, pb.ps, pb.sim O0 H _ H _ n _ _ (stR_start th hdk at' r hl ?_) (hW ds n q hl hw) ⟨fun σ' H' ρ' n' a s _ _ => fin .non n' _ H' a s.keep s.at_ rfl, fun _ _ _ _ a => a.elim, fun _ _ _ _ a => a.elim, fun d n' v H' a kp at2 rv => fin d n' v H' a kp at2 rv⟩⟩
    have := congrArg List.length S.pre
    rw [List.length_take] at this
    omega
/-- an __init__ that raises nothing -/
theorem fnI {x qual : Str} {st : Stmt} {f C : Addr} {fd : FuncData} {Ns ps : List Str} {k : Nat} {wi : WI0} (N : Nat) (c : String) (cp : ClsP p c C) (F : Fun K x qual st f fd) (S : FnScope Ns ps (defScope st)) (hN : N + 1 = ps.length)
    (hb : ∀ (cdv : Value) (A : Around) (outer : List PySem.Env) (s : Shared) (H : Hp) (E : XK), Room k (A.deeper (envOfC qual (defScope st) s.heap.objs.size f cdv)) →
      ∃ gs t W, PDB p (cxOf CX0 P w K mg base Ns qual (defScope st) f cdv A outer s H E).nox (defBody st) gs t W ∧ 0 ∉ gs ∧ ∀ ds n q, ds.length = N → wi ds n q → W { nx := fun ρ n => ∃ d, (ρ[0]? = some (.val d) ∨ ρ[0]? = some (.own d)) ∧ q d n, rt := fun _ _ => False } (.own (.obj c [] []) :: slots0 ds (Ns.length - (N + 1))) n) :
    FnOk P w K mg base CX0 (k + 1) f fd ps (spI p N C wi) := by
  refine F.ok S (fun vs H Q E h => ?_) (fun cdv A outer s H vs Q E hr h => ?_)
  · obtain ⟨O0, a, dx, ds, us, n, q, rfl, _, _, _, _, _, r, hl, _⟩ := h
    rw [List.length_cons, ← r.length, hl, hN]
  · obtain ⟨gs, t, W, pb, h0, hW⟩ := hb cdv A outer s H E hr
    obtain ⟨O0, a, dx, ds, us, n, q, rfl, ha, na, th, hdk, at', r, hl, hw, fin⟩ := h
    have hNs : N + 1 ≤ Ns.length := by
      have := congrArg List.length S.pre
      rw [List.length_take] at this
      omega
    let H1 : Hp := fun b => if b = a then none else H b
    have h1 : ∀ b o, H1 b = some o → H b = some o ∧ b ≠ a := fun b o e => by
      by_cases c : b = a
      · rw [show H1 b = none from if_pos c] at e; cases e
      · rw [show H1 b = H b from if_neg c] at e; exact ⟨e, c⟩
    have eS : L2.start Ns (.ref a :: us) = some (.ref a) :: (us.map some ++ List.replicate (Ns.length - (us.length + 1)) none) := rfl
    have own : ∀ b, Own O0 (L2.start Ns (.ref a :: us)) (.own (.obj c [] []) :: slots0 ds (Ns.length - (N + 1))) b → And1 O0 a b := fun b z => by
      rcases z with z | ⟨i, d, e1, e2⟩
      · exact .inl z
      · cases i with
        | zero => rw [eS] at e2; cases e2; exact .inr rfl
        | succ i => exact absurd (by simpa using e1) (slots_own (ds := ds) (k := Ns.length - (N + 1)) (i := i) (d := d))
    have g : Gr (And1 O0 a) H (Own O0 (L2.start Ns (.ref a :: us)) (.own (.obj c [] []) :: slots0 ds (Ns.length - (N + 1)))) H := fun b o no e => ⟨fun z => no (own b z), e⟩
    have S0 : StR p O0 H1 (L2.start Ns (.ref a :: us)) H (.own (.obj c [] []) :: slots0 ds (Ns.length - (N + 1))) n := by
      refine ⟨?_, fun i d e => ?_, fun i d e => ?_, fun i j d e b h1 h2 _ _ => ?_, fun b o _ e => (h1 b o e).1, th, hdk, at'⟩
      · have := r.length
        unfold L2.start slots0
        simp
        omega
      · cases i with
        | zero => cases e
        | succ i =>
          obtain ⟨v, e1, rv⟩ := r.get (slots_val (by simpa using e))
          exact ⟨v, start_get (vs := .ref a :: us) (i := i + 1) (by simpa using e1), Rp.gr g d v rv⟩
      · cases i with
        | zero =>
          cases e
          exact ⟨a, by rw [eS]; rfl, ⟨C, dx, [], ha, cp.at_, rfl, rfl⟩, na, if_pos rfl⟩
        | succ i => exact absurd (by simpa using e) (slots_own (ds := ds) (k := Ns.length - (N + 1)) (i := i) (d := d))
      · cases i with
        | zero => cases j with
          | zero => rfl
          | succ j => exact absurd (by simpa using h2) (slots_own (ds := ds) (k := Ns.length - (N + 1)) (i := j) (d := e))
        | succ i => exact absurd (by simpa using h1) (slots_own (ds := ds) (k := Ns.length - (N + 1)) (i := i) (d := d))
    refine ⟨t, pb.ps, pb.sim O0 H1 _ H _ n _ _ S0 (hW ds n q hl hw) ⟨fun σ' H' ρ' n' z s' _ o => ?_, fun _ _ _ _ z => z.elim, fun _ _ _ _ z => z.elim, fun _ _ _ _ z => z.elim⟩⟩
    obtain ⟨d, hd, qd⟩ := z
    have e0 : σ'[0]? = some (some (.ref a)) := by rw [o.2 0 h0, eS]; rfl
    have kp : ∀ b o, b ≠ a → ¬ p.dk b → H b = some o → H' b = some o := fun b o ne nd e => s'.keep b o nd (by rw [show H1 b = H b from if_neg ne]; exact e)
    rcases hd with hd | hd
    · obtain ⟨v, e1, rv⟩ := s'.val 0 d hd
      rw [e0] at e1; cases e1
      exact fin d n' H' qd kp s'.at_ (Rp.gr (gr_own fun b o _ z => .inl z) _ _ rv)
    · obtain ⟨b, e1, S2, rv, _⟩ := s'.letgo hd
      rw [e0] at e1; cases e1
      exact fin d n' H' qd kp s'.at_ (Rp.gr (gr_own fun b o _ z => .inl z) _ _ rv)
end
end DL
end
section
namespace DL
open PySem L2
open PyProof.Rows (envOfC)

section
variable {p : Par} {X : Cx} {a b c e o : Expr} {es : List Expr} {ta tb tc te : TE} {wa wb wc we : WE} {t : TA} {w : WA} {pos p1 : Pos} {x : Str}
def GlV (mg : Str → Option Value) (x : Str) (v : V) : Prop := ∃ u, mg x = some u ∧ RelV v u
theorem pd_gl {v : V} (d : D) (h : GlV X.mg x v) (hr : ∀ O H, Rp p O H d v := by intro _ _; rfl) (hg : Gl X x := by rfl) (hd : (x == ("__debug__" : Str)) = false := by decide) : PD p X (.Name x pos) (tC v) (wC d) := by
  obtain ⟨u, h1, h2⟩ := h
  exact ⟨pe_glob hg h1 h2 hd, sim_c hr⟩

def gDiv : D → D → Option D
  | .int i, .int j => if 0 < j ∧ j.natAbs.log2 < 9000 then some (.int (i / j)) else if j ≠ 0 ∧ j.natAbs < 1073741824 then some (.int (i.fdiv j)) else none
  | _, _ => none
def gMd : D → D → Option D
  | .int i, .int j => if 0 < j then some (.int (i % j)) else if j ≠ 0 then some (.int (i.fmod j)) else none
  | _, _ => none
theorem op_divD : OpR X (binaryOp .FloorDiv) (fun x y H Q => rI CDivW (fun i j => .int (i / j)) x y H Q ∨ rI CDivN (fun i j => .int (i.fdiv j)) x y H Q) := OpR.or op_fdivW op_fdivN
theorem op_modD : OpR X (binaryOp .Mod) (fun x y H Q => rI (fun _ j => 0 < j) (fun i j => .int (i % j)) x y H Q ∨ rI (fun _ j => j ≠ 0) (fun i j => .int (i.fmod j)) x y H Q) := OpR.or op_mod op_modN
theorem op2_div : Op2 p (fun x y H Q => rI CDivW (fun i j => .int (i / j)) x y H Q ∨ rI CDivN (fun i j => .int (i.fdiv j)) x y H Q) gDiv := by
  intro O0 H0 σ H ρ n x y a b d QV S ra rb hg k
  unfold gDiv at hg
  split at hg
  · split at hg
    · rename_i h
      cases hg
      exact .inl ⟨_, _, ra, rb, h, k _ H S rfl Ext.refl⟩
    · split at hg
      · rename_i h
        cases hg
        exact .inr ⟨_, _, ra, rb, h, k _ H S rfl Ext.refl⟩
      · cases hg
  · cases hg
theorem op2_md : Op2 p (fun x y H Q => rI (fun _ j => 0 < j) (fun i j => .int (i % j)) x y H Q ∨ rI (fun _ j => j ≠ 0) (fun i j => .int (i.fmod j)) x y H Q) gMd := by
  intro O0 H0 σ H ρ n x y a b d QV S ra rb hg k
  unfold gMd at hg
  split at hg
  · split at hg
    · rename_i h
      cases hg
      exact .inl ⟨_, _, ra, rb, h, k _ H S rfl Ext.refl⟩
    · split at hg
      · rename_i h
        cases hg
        exact .inr ⟨_, _, ra, rb, h, k _ H S rfl Ext.refl⟩
      · cases hg
  · cases hg
theorem gDiv_pos {i j : Int} (h : 0 < j) (h2 : j < 2 ^ 64) : gDiv (.int i) (.int j) = some (.int (i / j)) := by
  have : j.natAbs < 2 ^ 64 := by omega
  have h3 : j.natAbs ≠ 0 := by omega
  exact if_pos ⟨h, Nat.lt_trans ((Nat.log2_lt h3).mpr this) (by decide)⟩
theorem gMd_pos {i j : Int} (h : 0 < j) : gMd (.int i) (.int j) = some (.int (i % j)) := if_pos h
def gCmp (f : Int → Int → Bool) (g : List Nat → List Nat → Bool) : D → D → Option D
  | .int i, .int j => some (.bl (f i j))
  | .str s, .str t => some (.bl (g s.cps.toList t.cps.toList))
  | _, _ => none
theorem op2_cmp {f : Int → Int → Bool} {g : List Nat → List Nat → Bool} : Op2 p (fun x y H Q => rI0 (fun i j => .bl (f i j)) x y H Q ∨ ∃ i j, x = V.str i ∧ y = V.str j ∧ Q (.bl (g i.cps.toList j.cps.toList)) H) (gCmp f g) := by
  intro O0 H0 σ H ρ n x y a b d QV S ra rb hg k
  unfold gCmp at hg
  split at hg
  · cases hg
    exact .inl ⟨_, _, ra, rb, k _ H S rfl Ext.refl⟩
  · cases hg
    exact .inr ⟨_, _, ra, rb, k _ H S rfl Ext.refl⟩
  · cases hg
def gLtA := gCmp (fun i j => decide (i < j)) (fun s t => decide (s < t))
@[simp] theorem gLtA_int (i j : Int) : gLtA (.int i) (.int j) = some (.bl (decide (i < j))) := rfl
@[simp] theorem gLtA_str (s t : Str) : gLtA (.str s) (.str t) = some (.bl (decide (s.cps.toList < t.cps.toList))) := rfl
theorem op_ltA : OpR X (compareOp .Lt) (fun x y H Q => rI0 (fun i j => .bl (decide (i < j))) x y H Q ∨ ∃ i j, x = V.str i ∧ y = V.str j ∧ Q (.bl (decide (i.cps.toList < j.cps.toList))) H) := OpR.or op_lt op_lt_str
theorem op2_ltA : Op2 p (fun x y H Q => rI0 (fun i j => .bl (decide (i < j))) x y H Q ∨ ∃ i j, x = V.str i ∧ y = V.str j ∧ Q (.bl (decide (i.cps.toList < j.cps.toList))) H) gLtA := op2_cmp

structure Gf (P : Program) (w : World) (K : PySem.W.Frag) (mg : Str → Option Value) (base : Heap) (p : Par) (x : Str) (k N : Nat) (wf : WF) : Prop where
  ex : ∃ (f : Addr) (fd : FuncData) (ps : List Str), FnOk P w K mg base CX0 k f fd ps (spW p N wf) ∧ mg x = some (.ref f) ∧ PySem.W.keepIn K (.ref f) = true ∧ Binds K fd ps []
theorem pd_g {k N : Nat} {wf : WF} (G : Gf X.prog X.w X.K X.mg X.base p x k N wf) (hr : Room k X.A) (ha : PDA p X (e :: es) t w) (hg : Gl X x := by rfl) (hdb : (x == ("__debug__" : Str)) = false := by decide) (he : starEach (e :: es) X.env = (false, eval e X.env) :: starEach es X.env := by rfl) (hpl : (backTo pos (starEach es X.env)).any (·.1) = false := by rfl) :
    PD p X (.Call (.Name x p1) (e :: es) [] pos) (tCall (spW p N wf) [] E0 t) (wCallF (wLen N wf) [] w) := by
  obtain ⟨f, fd, ps, F, hm, hk, hb⟩ := G.ex
  exact pd_call [] F hr hm hk hb .nil (fun _ _ => rfl) ha hg hdb he hpl

def wPar (i j : Nat) (w : WA) : WS := fun q ρ n => w ρ n fun ds ρ1 n1 => match ds with
  | [a, b] => i < ρ1.length ∧ j < ρ1.length ∧ q.nx ((ρ1.set i (.val a)).set j (.val b)) n1
  | _ => False
theorem only_set2 {i j : Nat} {σ : St} {v u : V} : Only [i, j] σ ((σ.set i (some v)).set j (some u)) := (only_set (i := i)).trans (only_set (i := j))
theorem ext_set {O0 : Addr → Prop} {H : Hp} {σ : St} {ρ : Sl} {i : Nat} {d : D} {v : V} : Ext p O0 (Own O0 σ ρ) H (Own O0 (σ.set i (some v)) (ρ.set i (.val d))) H := ⟨gr_set, fun _ _ _ _ e => e⟩
theorem pds_par (i j : Nat) {y : Str} {px py pt : Pos} {kt k2 pt2} (hc : X.calm = true) (hN : X.N.Nodup) (ha : PDA p X [a, b] t w) (hi : X.N[i]? = some x := by rfl) (hj : X.N[j]? = some y := by rfl) (hij : i ≠ j := by decide) (hx : X.env.scope.names.lookup x = some .local := by rfl) (hy : X.env.scope.names.lookup y = some .local := by rfl)
    (hw : swappedStores [.Tuple [.Name x px, .Name y py] kt pt] (.Tuple [a, b] k2 pt2) X.env = pure (some [x, y]) := by rfl) (hs : swapsWithSole [.Tuple [.Name x px, .Name y py] kt pt] (.Tuple [a, b] k2 pt2) pos.line X.env = pure false := by rfl) :
    PDS p X (.Assign [.Tuple [.Name x px, .Name y py] kt pt] (.Tuple [a, b] k2 pt2) pos) [i, j] (tPar i j t) (wPar i j w) := by
  refine ⟨ps_par hc hN hi hj hij hx hy ha.pa hw hs, fun O0 H0 σ H ρ n q E S hw r => ?_⟩
  refine ha.sim O0 H0 σ H ρ n _ _ S hw fun ds ρ1 n1 vs H1 q1 S1 r1 x1 => ?_
  split at q1
  · obtain ⟨v, u, rfl, rv, ru⟩ := rpl2 r1
    obtain ⟨h1, h2, q2⟩ := q1
    have S2 := S1.setV rv h1
    have S3 := S2.setV (i := j) (Rp.gr gr_set _ _ ru) (by simpa using h2)
    exact ⟨v, u, rfl, r.nx _ H1 _ n1 q2 S3 ((x1.trans ext_set).trans ext_set) only_set2⟩
  · exact q1.elim
def wPar3 (i j l : Nat) (w : WA) : WS := fun q ρ n => w ρ n fun ds ρ1 n1 => match ds with
  | [a, b, c] => i < ρ1.length ∧ j < ρ1.length ∧ l < ρ1.length ∧ q.nx (((ρ1.set i (.val a)).set j (.val b)).set l (.val c)) n1
  | _ => False
theorem rpl3 {O : Addr → Prop} {H : Hp} {d e f : D} {xs : List V} (r : RpL p O H [d, e, f] xs) : ∃ x y z, xs = [x, y, z] ∧ Rp p O H d x ∧ Rp p O H e y ∧ Rp p O H f z := by
  obtain ⟨x, ys, rfl, r1, r2⟩ := r
  obtain ⟨y, z, rfl, r3, r4⟩ := rpl2 r2
  exact ⟨x, y, z, rfl, r1, r3, r4⟩
theorem pds_par3 (i j l : Nat) {y z : Str} {px py pz pt : Pos} {kt k2 pt2} (hc : X.calm = true) (hN : X.N.Nodup) (ha : PDA p X [a, b, c] t w)
    (hi : X.N[i]? = some x := by rfl) (hj : X.N[j]? = some y := by rfl) (hl : X.N[l]? = some z := by rfl) (hij : i ≠ j := by decide) (hil : i ≠ l := by decide) (hjl : j ≠ l := by decide) (hx : X.env.scope.names.lookup x = some .local := by rfl) (hy : X.env.scope.names.lookup y = some .local := by rfl) (hz : X.env.scope.names.lookup z = some .local := by rfl)
    (hw : swappedStores [.Tuple [.Name x px, .Name y py, .Name z pz] kt pt] (.Tuple [a, b, c] k2 pt2) X.env = pure (some [x, y, z]) := by rfl) (hss : swapsWithSole [.Tuple [.Name x px, .Name y py, .Name z pz] kt pt] (.Tuple [a, b, c] k2 pt2) pos.line X.env = pure false := by rfl) :
    PDS p X (.Assign [.Tuple [.Name x px, .Name y py, .Name z pz] kt pt] (.Tuple [a, b, c] k2 pt2) pos) [i, j, l] (tPar3 i j l t) (wPar3 i j l w) := by
  refine ⟨ps_par3 hc hN hi hj hl hij hil hjl hx hy hz ha.pa hw hss, fun O0 H0 σ H ρ n q E S hw r => ?_⟩
  refine ha.sim O0 H0 σ H ρ n _ _ S hw fun ds ρ1 n1 vs H1 q1 S1 r1 x1 => ?_
  split at q1
  · obtain ⟨v, u, s, rfl, rv, ru, rs⟩ := rpl3 r1
    obtain ⟨h1, h2, h3, q2⟩ := q1
    have S2 := S1.setV rv h1
    have S3 := S2.setV (i := j) (Rp.gr gr_set _ _ ru) (by simpa using h2)
    have S4 := S3.setV (i := l) (Rp.gr (gr_set.trans gr_set) _ _ rs) (by simpa using h3)
    exact ⟨v, u, s, rfl, r.nx _ H1 _ n1 q2 S4 (((x1.trans ext_set).trans ext_set).trans ext_set) ((only_set2 (i := i) (j := j)).trans (only_set (i := l)))⟩
  · exact q1.elim
/-- a, b = two new lists, each held by its name -/
def wPairF (wa wb : WE) : WA := fun ρ n Q => wa ρ n fun d ρ1 n1 => wb ρ1 n1 fun d' ρ2 n2 => Q [d, d'] ρ2 n2
def wParFF (i j : Nat) (wa wb : WE) : WS := fun q ρ n => wa ρ n fun d ρ1 n1 => wb ρ1 n1 fun d' ρ2 n2 => i < ρ2.length ∧ j < ρ2.length ∧ q.nx ((ρ2.set i (.own d)).set j (.own d')) n2

def wLenO (i : Nat) : WE := fun ρ n Q => match ρ[i]? with
  | some (.own (.lst ds)) => Q (.int ds.length) ρ n
  | some (.val (.lst ds)) => Q (.int ds.length) ρ n
  | some (.val (.tup ds)) => Q (.int ds.length) ρ n
  | _ => False
theorem pd_lenO (i : Nat) {y : Str} {p2 : Pos} (hK : X.K = p.K) (hm : X.mg "len" = none) (hN : X.N[i]? = some y := by rfl) (hv : Vis X.env.scope y := by first | exact Or.inl rfl | exact Or.inr (Or.inl rfl) | exact Or.inr (Or.inr rfl)) (hd : (y == ("__debug__" : Str)) = false := by decide) (hcd : (y == ("__classdict__" : Str)) = false := by decide) (hg : Gl X "len" := by rfl)
    (he : starEach [.Name y p2] X.env = (false, eval (.Name y p2) X.env) :: starEach [] X.env := by rfl) (hpl : (backTo pos (starEach [] X.env)).any (·.1) = false := by rfl) : PD p X (.Call (.Name "len" p1) [.Name y p2] [] pos) (tCB (rLen p.K) (tCons (tVar i) tNil)) (wLenO i) := by
  refine ⟨by rw [← hK]; exact pe_callB cr_len hg hm PySem.boot_len (pa_cons (pv i hN hv hd hcd) pa_nil he) (by decide) (by decide) he hpl, fun O0 H0 σ H ρ n Q QV S hw k => ?_⟩
  unfold wLenO at hw
  split at hw
  · rename_i ds e1
    obtain ⟨a, e2, w0, _⟩ := S.own i _ e1
    obtain ⟨vs, h1, r1⟩ := w0
    refine ⟨_, e2, .inl ⟨a, vs, rfl, .inl (SqL.of h1), ?_⟩⟩
    rw [← r1.length]
    exact k _ ρ n _ H hw S rfl Ext.refl
  · rename_i ds e1
    obtain ⟨v, e2, r⟩ := S.val i _ e1
    obtain ⟨a, vs, rfl, n1, h1, r1⟩ := r
    refine ⟨_, e2, .inl ⟨a, vs, rfl, .inl (SqL.of h1), ?_⟩⟩
    rw [← r1.length]
    exact k _ ρ n _ H hw S rfl Ext.refl
  · rename_i ds e1
    obtain ⟨v, e2, r⟩ := S.val i _ e1
    obtain ⟨a, vs, rfl, h1, r1⟩ := r
    refine ⟨_, e2, .inl ⟨a, vs, rfl, .inr (sqT_of h1), ?_⟩⟩
    rw [← r1.length]
    exact k _ ρ n _ H hw S rfl Ext.refl
  · exact hw.elim
/-- x.pop(e) -/
def wPopAt (i : Nat) (we : WE) : WE := fun ρ n Q => match ρ[i]? with
  | some (.own (.lst ds)) => we ρ n fun d ρ1 n1 => onI d fun k => match ρ1[i]? with
    | some (.own (.lst es)) => es = ds ∧ 0 ≤ k ∧ k < (2 : Int) ^ 62 ∧ opt (ds[k.toNat]?) fun y => Q y (ρ1.set i (.own (.lst (ds.eraseIdx k.toNat)))) n1
    | _ => False
  | _ => False
theorem pd_popAt (i : Nat) {y : Str} {p0 apos cpos : Pos} (hK : X.K = p.K) (he : PD p X e te we) (hN : X.N[i]? = some y := by rfl) (hv : Vis X.env.scope y := by first | exact Or.inl rfl | exact Or.inr (Or.inl rfl) | exact Or.inr (Or.inr rfl)) (hd : (y == ("__debug__" : Str)) = false := by decide)
    (hcd : (y == ("__classdict__" : Str)) = false := by decide) (ok : BmOk X (.Name y p0) "pop" e [] apos cpos := by exact ⟨rfl, rfl, rfl, rfl, rfl⟩) :
    PD p X (.Call (.Attribute (.Name y p0) "pop" apos) [e] [] cpos) (tBM p.K "list" rPopAt (tVar i) (tCons te tNil)) (wPopAt i we) := by
  refine ⟨by rw [← hK]; exact pe_bm PySem.F.plainAttrs_list PySem.F.slot_list_pop PySem.F.type_list_pop mt_popAt (pv i hN hv hd hcd) (pa_cons he.pe pa_nil ok.b4) ok.b1 ok.b2 ok.b3 ok.b4 ok.b5, fun O0 H0 σ H ρ n Q QV S hw k => ?_⟩
  unfold wPopAt at hw
  split at hw
  · rename_i ds e1
    obtain ⟨a, e2, w0, n1, _⟩ := S.own i _ e1
    obtain ⟨vs, h1, r1⟩ := w0
    refine ⟨.ref a, e2, .inl ⟨rfl, _, SqL.of h1⟩, he.sim O0 H0 σ H ρ n _ _ S hw fun d ρ1 n1' y H1 q1 S1 ry x1 => ?_⟩
    obtain ⟨m, rfl, q1⟩ := onI_get q1
    split at q1
    · rename_i es e3
      obtain ⟨rfl, hm0, hm1, q⟩ := q1
      obtain ⟨dy, ey, q⟩ := opt_get q
      obtain ⟨a', e4, w1, m1, _⟩ := S1.own i _ e3
      rw [e2] at e4; cases e4
      obtain ⟨vs', h2, r2⟩ := w1
      obtain ⟨vy, evy, rvy⟩ := r2.get ey
      cases (show y = V.int m from ry)
      have hlt : m.toNat < vs'.length := (List.getElem?_eq_some_iff.mp evy).1
      have hz : (2 : Int) ^ 62 < 2 ^ 63 := by decide
      have hsi : seqIndex? m vs'.length = some m.toNat := (ixN_seq (n := vs'.length) (i := m) (j := m.toNat) (by unfold ixN; rw [if_pos hm0, if_pos (by omega)])).1
      refine ⟨a, vs', m, m.toNat, vy, rfl, rfl, h2, by omega, by omega, hsi, evy, ?_⟩
      obtain ⟨S2, x2⟩ := S1.change (o := .lst (vs'.eraseIdx m.toNat)) (d' := .lst (es.eraseIdx m.toNat)) e3 e2 fun O' H' gr eo => ⟨_, eo, (RpL.gr gr _ _ r2).erase _⟩
      exact k _ _ n1' _ _ q S2 (Rp.gr x2.gr _ _ rvy) (x1.trans x2)
    · exact q1.elim
  · exact hw.elim
end
end DL
end
section
namespace DL
open PySem L2
open PyProof.Rows (envOfC)

structure Gm (P : Program) (w : World) (K : PySem.W.Frag) (mg : Str → Option Value) (base : Heap) (p : Par) (C : Addr) (m : Str) (k N : Nat) (wf : WF) : Prop where
  ex : ∃ (f : Addr) (fd : FuncData) (ps : List Str), FnOk P w K mg base CX0 k f fd ps (spW p N wf) ∧ Meth K C m f ∧ Binds K fd ps []
structure Gp (P : Program) (w : World) (K : PySem.W.Frag) (mg : Str → Option Value) (base : Heap) (p : Par) (C : Addr) (m : Str) (k : Nat) (wf : WF) : Prop where
  ex : ∃ (q f : Addr) (fd : FuncData) (ps : List Str), FnOk P w K mg base CX0 k f fd ps (spW p 1 wf) ∧ PropOf K C m q f ∧ Binds K fd ps []
/-- a class whose __init__ has its promise; dd: the defaults -/
structure Gi (P : Program) (w : World) (K : PySem.W.Frag) (mg : Str → Option Value) (base : Heap) (p : Par) (C : Addr) (x : Str) (k N : Nat) (wi : WI0) (dvs : List V) : Prop where
  ex : ∃ (f : Addr) (fd : FuncData) (ps : List Str) (dfs : List Value), FnOk P w K mg base CX0 k f fd ps (spI p N C wi) ∧ Mk K C f ∧ mg x = some (.ref C) ∧ Binds K fd ps dfs ∧ L2.Vals dvs dfs
section
variable {p : Par} {X : Cx} {a b c e o : Expr} {es : List Expr} {ta tb tc te : TE} {wa wb wc we : WE} {t : TA} {w : WA} {pos p1 apos : Pos} {x : Str} {C : Addr} {k N : Nat} {wf : WF} {wi : WI0}
theorem pd_methG (c m : String) (cp : ClsP p c C) (hK : X.K = p.K) (G : Gm X.prog X.w X.K X.mg X.base p C (Str.ofString m) k N wf) (hr : Room k X.A) (he : PD p X o te we) (ha : PDA p X (e :: es) t w)
    (mk : ∀ {f : Addr} {fd : FuncData} {ps : List Str} {ta' : TE} {t' : TA}, Room k X.A → FnOk X.prog X.w X.K X.mg X.base CX0 k f fd ps (spW p N wf) → Meth X.K C (Str.ofString m) f → Binds X.K fd ps [] → Cls X.K C → PE X o ta' → PA X (e :: es) t' → PE X (.Call (.Attribute o (Str.ofString m) apos) (e :: es) [] pos) (tMeth C m (spW p N wf) [] E0 ta' t') := by
      exact fun hr F M b c he ha => pe_meth he c M F hr b .nil pass0 ha) :
    PD p X (.Call (.Attribute o (Str.ofString m) apos) (e :: es) [] pos) (tMeth C m (spW p N wf) [] E0 te t) (wMeth c m (wLen N wf) [] we w) := by
  obtain ⟨f, fd, ps, F, M, hb⟩ := G.ex
  exact ⟨mk hr F M hb (by rw [hK]; exact cp.cl) he.pe ha.pa, sim_meth cp (fun _ _ => rfl) he.sim ha.sim⟩
theorem pd_propG {m : String} (c : String) (cp : ClsP p c C) (hK : X.K = p.K) (G : Gp X.prog X.w X.K X.mg X.base p C (Str.ofString m) k wf) (hr : Room (k + 1) X.A) (he : PD p X e te we)
    (hab : attributeBase e (Str.ofString m) X.env (eval e X.env) = eval e X.env := by rfl) : PD p X (.Attribute e (Str.ofString m) pos) (tProp C (spW p 1 wf) [] E0 te) (wProp c wf we) := by
  obtain ⟨q, f, fd, ps, F, M, hb⟩ := G.ex
  exact pd_prop c cp (by rw [hK]; exact cp.cl) M F hr hb he hab
theorem pd_mk {dvs : List V} (dds : List D) (G : Gi X.prog X.w X.K X.mg X.base p C x k N wi dvs) (hr : Room (k + 1) X.A) (hdd : ∀ O H, RpL p O H dds dvs) (ha : PDA p X (e :: es) t w) (hg : Gl X x := by rfl) (hdb : (x == ("__debug__" : Str)) = false := by decide)
    (he : starEach (e :: es) X.env = (false, eval e X.env) :: starEach es X.env := by rfl) (hpl : (backTo pos (starEach es X.env)).any (·.1) = false := by rfl) :
    PD p X (.Call (.Name x p1) (e :: es) [] pos) (tMake C (spI p N C wi) dvs E0 t) (wMake (wLen N wi) dds w) := by
  obtain ⟨f, fd, ps, dfs, F, M, hm, hb, hd⟩ := G.ex
  exact pd_make dds M F hr hm hb hd hdd ha (pe_make M F hr hg hm hb hd pass0 ha.pa hdb he hpl)

def rInO (p : Par) (C : Addr) (wf : WF) (neg : Bool) : R2 := fun x y H Q => ∃ a dx fs, y = .ref a ∧ H a = some (.ins C dx fs) ∧ spW p 2 wf [y, x] H (fun v H' => ∃ b, v = .bl b ∧ Q (.bl (if neg then !b else b)) H') E0
structure InK (K : PySem.W.Frag) (C f : Addr) : Prop where
  at_ : PySem.W.findIn K (.ref C) "__contains__" = some (some (.ref f))
  fn : PySem.W.isFn K (.ref f) = true
section
variable {f : Addr} {fd : FuncData} {ps : List Str}
theorem op_inO (neg : Bool) (hi : InK X.K C f) (F : FnOk X.prog X.w X.K X.mg X.base CX0 k f fd ps (spW p 2 wf)) (hr : Room k X.A) (hb : Binds X.K fd ps []) : OpR X (compareOp (if neg then .NotIn else .In)) (rInO p C wf neg) := by
  intro pins s σ H x y v u Q I rx ry h
  obtain ⟨a, dx, fs, rfl, ea, q⟩ := h
  obtain rfl : u = Value.ref a := ry
  obtain ⟨mA, O, _⟩ := ins_get I.hok ea
  obtain ⟨od, J, _⟩ := O.look
  obtain ⟨m, Fm⟩ := I.fr
  have call := run_fn (us := [.ref a, v]) (vs := [.ref a, x]) F hr hb .nil pass0 I (.cons rfl (.cons rx .nil)) q
  cases neg with
  | false =>
    refine PySem.W.in_K Fm I.mod.kin J hi.at_ hi.fn (thn call fun r s1 ⟨z, H1, I1, rz, b, ez, q1⟩ => ?_)
    subst ez
    cases rz
    exact PySem.wpAny_truthy_bool ⟨.bl b, H1, I1, rfl, by simpa using q1⟩
  | true =>
    refine PySem.W.notIn_K Fm I.mod.kin J hi.at_ hi.fn (thn call fun r s1 ⟨z, H1, I1, rz, b, ez, q1⟩ => ?_)
    subst ez
    cases rz
    exact PySem.wpAny_truthy_bool ⟨.bl (!b), H1, I1, rfl, by simpa using q1⟩
end
structure Gin (P : Program) (w : World) (K : PySem.W.Frag) (mg : Str → Option Value) (base : Heap) (p : Par) (C : Addr) (k : Nat) (wf : WF) : Prop where
  ex : ∃ (f : Addr) (fd : FuncData) (ps : List Str), FnOk P w K mg base CX0 k f fd ps (spW p 2 wf) ∧ InK K C f ∧ Binds K fd ps []
def wInO (c : String) (neg : Bool) (wf : WF) (wa wb : WE) : WE := fun ρ n Q => wa ρ n fun d ρ1 n1 => wb ρ1 n1 fun o ρ2 n2 => match o with
  | .obj c' _ _ => c' = c ∧ wf [o, d] n2 fun r n3 => onB r fun k => Q (.bl (if neg then !k else k)) ρ2 n3
  | _ => False
theorem sim_inO {c : String} {neg : Bool} (cp : ClsP p c C) (ha : SimE p ta wa) (hb : SimE p tb wb) : SimE p (tOp (rInO p C wf neg) ta tb) (wInO c neg wf wa wb) := by
  intro O0 H0 σ H ρ n Q QV S hw kk
  refine ha O0 H0 σ H ρ n _ _ S hw fun d ρ1 n1 x H1 q1 S1 r1 x1 => ?_
  refine hb O0 H0 σ H1 ρ1 n1 _ _ S1 q1 fun o ρ2 n2 y H2 q2 S2 r2 x2 => ?_
  split at q2
  · obtain ⟨rfl, q⟩ := q2
    obtain ⟨a, C', dx, xs, rfl, m1, h1, hc', en, rl⟩ := id r2
    rw [cp.at_] at hc'; cases hc'
    refine ⟨a, dx, xs, rfl, h1, ?_⟩
    refine call_asks (Q := fun r ρ' n' => ρ' = ρ2 ∧ onB r fun k => Q (.bl (if neg then !k else k)) ρ2 n') (ds := [_, d]) S2 (.cons r2 (.cons (Rp.gr x2.gr _ _ r1) rfl)) rfl ?_ fun d' n3 v H3 q' S' rv x3 => ?_
    · simpa using q
    · obtain ⟨_, q'⟩ := q'
      obtain ⟨b, rfl, q'⟩ := onB_get q'
      exact ⟨b, rv, kk _ ρ2 n3 _ H3 q' S' rfl ((x1.trans x2).trans x3)⟩
  · exact q2.elim
theorem pd_inO (c : String) (cp : ClsP p c C) (G : Gin X.prog X.w X.K X.mg X.base p C k wf) (hr : Room k X.A) (ha : PD p X a ta wa) (hb : PD p X b tb wb) (hm : behindInMarks .In b = false := by rfl) : PD p X (.Compare a [.In] [b] pos) (tOp (rInO p C wf false) ta tb) (wInO c false wf wa wb) := by
  obtain ⟨f, fd, ps, F, M, bb⟩ := G.ex
  exact ⟨pe_cmpR (op_inO false M F hr bb) ha.pe hb.pe hm, sim_inO cp ha.sim hb.sim⟩
theorem pdt_notInO (c : String) (cp : ClsP p c C) (G : Gin X.prog X.w X.K X.mg X.base p C k wf) (hr : Room k X.A) (ha : PD p X a ta wa) (hb : PD p X b tb wb) (hm : behindInMarks .NotIn b = false := by rfl) : PDT p X (.Compare a [.NotIn] [b] pos) (tTest (tOp (rInO p C wf true) ta tb)) (wTest (wInO c true wf wa wb)) := by
  obtain ⟨f, fd, ps, F, M, bb⟩ := G.ex
  exact ⟨pt_cmpR (op_inO true M F hr bb) ha.pe hb.pe hm, sim_test (sim_inO cp ha.sim hb.sim)⟩
end
end DL
end
section
namespace DL
open PySem L2 RZ

/-- the tuple at a, each item in a new pair with its number -/
def IteT (K : PySem.W.Frag) (a : Addr) : It where
  go := fun i H => ∃ (ys : List V) (y : V), SqT K H a ys ∧ ys[i]? = some y
  yld := fun i H v H' => ∃ U y, v = .ref U ∧ H U = none ∧ H' = upd H U (.tup [.int (i : Nat), y]) ∧ ∀ ys, SqT K H a ys → ys[i]? = some y
  stop := fun i H => ∃ ys : List V, SqT K H a ys ∧ ys.length ≤ i
theorem walk_enumT {K : PySem.W.Frag} {a : Addr} {ys : List V} : Walk (IteT K a) ys.length (fun H => SqT K H a ys) (YPair (fun i => some (.int (i : Nat))) (fun i => ys[i]?)) := by
  constructor
  · intro i H hi q
    exact ⟨ys, ys[i], q, by simp [hi]⟩
  · intro H q
    exact ⟨ys, q, Nat.le_refl _⟩
  · rintro i H v H' _ q ⟨U, y, h1, h2, h3, h4⟩
    exact ⟨U, .int (i : Nat), y, h1, h2, h3, rfl, h4 ys q⟩
theorem turn_enumT {P : Program} {w : World} {K : PySem.W.Frag} {elts : List Expr} {kk : Nat} {tpos : Pos} (a e it : Addr) :
    Turn P w K (.Tuple elts kk tpos) (IteT K a) [e, it] e (fun i h => (∃ old, IsEnum h e it ((i : Nat) : Int) old) ∧ h.IsTupleIter it a i ∧ e ≠ it ∧ a ≠ it ∧ a ≠ e) where
  mem := by simp
  obj := fun i h st b hb => by
    obtain ⟨⟨old, he⟩, ⟨o, ho, hc, hd⟩, _⟩ := st
    rcases (by simpa using hb : b = e ∨ b = it) with z | z
    · subst z
      exact ⟨_, he, fun v q => nomatch q⟩
    · subst z
      exact ⟨o, ho, fun v q => by rw [hd] at q; cases q⟩
  keep := fun i h h' st k => by
    obtain ⟨⟨old, he⟩, hi, n1⟩ := st
    exact ⟨⟨old, k e (by simp) _ he⟩, hi.at fun o q => k it (by simp) o q, n1⟩
  item := by
    intro X hP hw hK hc i pins s σ H E I hf st hg
    subst hP hw hK
    obtain ⟨⟨old, he⟩, hit, hne, n1, n2⟩ := st
    obtain ⟨ys, y, hq, hy⟩ := hg
    obtain ⟨its, rv, p, hz⟩ := I.tuple hq
    obtain ⟨u, hu, ru⟩ := rv.get hy
    have hel : e < s.heap.objs.size := Heap.lt_size he
    have hil : it < s.heap.objs.size := by
      obtain ⟨_, q, _⟩ := hit
      exact Heap.lt_size q
    have pt : s.heap.IsTuple a its.toArray := p
    have hlt : i < its.toArray.size := by
      have := (List.getElem?_eq_some_iff.mp hu).1
      simpa using this
    have D : Draws X.prog X.w X.A.in1 it [it, a] its.toArray.size (fun i v => its.toArray[i]? = some v) (fun i h => h.IsTupleIter it a i ∧ h.IsTuple a its.toArray) := Draws.tuple (A := X.A.in1) (show X.A.in1.handled = none from I.ok.hd hc) it a n1 its.toArray
    refine wpAny_pyNext_enum_itemD D he ⟨hit, pt⟩ hlt hne (by simp [hne, Ne.symm n2]) fun x h' tk hP ho hit' hT hsz hk => ?_
    obtain rfl : x = u := by
      have : some x = some u := by rw [← hu, ← hP]; simp
      exact Option.some.inj this
    refine ⟨_, rfl, wpAny_letOwnedTupleGo_enum (s := { s with heap := h', toks := tk + 1 }) ho fun h'' he' sb => ?_⟩
    have hT2 : h''.get? s.heap.objs.size = some { cls := .type "tuple", data := .seq #[.int i tk, x] } := (sb.2 _ (Nat.ne_of_gt hel)).trans hT
    have new : ObjOk X.prog X.w (upd H s.heap.objs.size (.tup [.int (i : Nat), y])) h'' s.heap.objs.size (.tup [.int (i : Nat), y]) := by
      refine ⟨?_, [.int i tk, x], .cons ⟨_, rfl⟩ (.cons ru .nil), ⟨_, hT2, rfl, _, rfl⟩⟩
      show 2 ≤ sizeLine
      decide
    have I1 : Inv X pins σ (upd H s.heap.objs.size (.tup [.int (i : Nat), y])) { s with heap := h'', toks := tk + 1 } :=
      I.turnedNew (ch := [e, it]) (fun b ob hb q => (sb.2 b (fun z => hb (by simp [z]))).trans (hk b ob (fun z => hb (by simp [z])) (fun z => hb (by simp [z])) q)) hf (Nat.le_refl _) new
    refine ⟨.ref s.heap.objs.size, _, I1, rfl, ⟨_, y, rfl, I.hok.fresh (Nat.le_refl _), rfl, fun zs hzs => by rw [I.tuple_inj hzs hq]; exact hy⟩, ⟨⟨x, ?_⟩, hit'.1.at fun o q => (sb.2 it (Ne.symm hne)).trans q, hne, n1, n2⟩, fun b hb => ?_⟩
    · have e1 : ((i + 1 : Nat) : Int) = (i : Int) + 1 := by omega
      rw [e1]
      exact he'
    · have hb' : b < s.heap.objs.size := by
        rcases (by simpa using hb : b = e ∨ b = it) with z | z
        · subst z; exact hel
        · subst z; exact hil
      rw [upd_ne (Nat.ne_of_lt hb')]
      exact (hf b hb).1
  done := by
    intro X hP hw hK hc i pins s σ H E I hf st hg
    subst hP hw hK
    obtain ⟨⟨old, he⟩, hit, hne, n1, n2⟩ := st
    obtain ⟨ys, hq, hy⟩ := hg
    obtain ⟨its, rv, p, hz⟩ := I.tuple hq
    obtain ⟨f0, f1, f2, f3, f4, f5⟩ := hf it (by simp)
    have hl := rv.length
    have pt : s.heap.IsTuple a its.toArray := p
    have hT : s.TypeIs (.ref e) "enumerate" := ⟨_, he, rfl⟩
    unfold pyNext
    refine wpAny_bind (wpAny_attempt (wpAny_callSpecial?_slot (name := Str.ofString "__next__") hT F.slot_enumerate_next (wpAny_call_entry F.slot_enumerate_next hT F.entry_enumerate_next ?_ (F.args_enumerate_next_1 _))))
    show wpAny _ _ (field (.ref e) 2 >>= _) _ _ _
    refine wpAny_bind (wpAny_field he rfl (x := .ref it) rfl ?_)
    refine wpAny_bind (wpAny_nextOf_tuple_end (I.ok.hd hc) hit pt (by simp; omega) fun h' x he' hx' => ?_)
    obtain ⟨o, ho, hc'⟩ := hx'
    refine wpAny_bind (wpAny_isInstance (T := "StopIteration") (b := true) ⟨o, ho, hc'⟩ isSubtype_stop ?_)
    exact wpAny_pure ⟨rfl, I.turned (t' := s.toks) (fun b o hb q => he' b o hb q) f0 f1 f3 f4 f5⟩
  self := fun A i s Q E st h => by
    obtain ⟨⟨_, he⟩, _⟩ := st
    exact wpAny_pyIter_enum he h

set_option maxHeartbeats 1000000 in
theorem meets_enum_new1 {v : Value} {o : Obj} {H : Heap → Prop} (B : Begins v o H) :
    Meets (Builtin.«enumerate.__new__» ⟨[.type "enumerate", v], []⟩) (fun _ R s => H s.heap ∧
      R (.ok (.ret (.ref (s.heap.push o).objs.size))) { s with heap := (s.heap.push o).push { cls := .type "enumerate", data := .fields #[.none, .bool false, .ref s.heap.objs.size, rawInt 0, .none, .none] } }) := by
  refine .of_wp fun prog w A R s h => ?_
  obtain ⟨hp, g, d, tk, os⟩ := s
  obtain ⟨h1, h⟩ := h
  have hsub := sub_enumerate
  have q1 : ∀ {A' : Around} {E : Value → Shared → Prop} {Q : Value → Shared → Prop}, Q (.ref hp.objs.size) ⟨hp.push o, g, d, tk, os⟩ → wpAny (model prog w) A' (pyIter v) Q E ⟨hp, g, d, tk, os⟩ := fun q => B.iter prog w _ _ ⟨hp, g, d, tk, os⟩ _ h1 q
  wp_walk using q1
  refine wpAny_stack_any fun st => wpAny_pure ?_
  split
  · rename_i c _ _ _ _ _
    cases (c == Value.type "enumerate") <;> (wp_walk using q1; exact ⟨_, rfl, h⟩)
  · wp_walk using q1
    exact ⟨_, rfl, h⟩
theorem call_enum_tuple {prog : Program} {w : World} {A : Around} {E : Value → Shared → Prop} {s : Shared} {t : Addr} {items : Array Value} {Q : Value → Shared → Prop} (hT : s.heap.IsTuple t items)
    (h : ∀ h', IsEnum h' (s.heap.objs.size + 1) s.heap.objs.size 0 .none → h'.IsTupleIter s.heap.objs.size t 0 → h'.objs.size = s.heap.objs.size + 2 → (∀ b o, s.heap.get? b = some o → h'.get? b = some o) → Q (.ref (s.heap.objs.size + 1)) { s with heap := h' }) :
    wpAny (model prog w) A (call (.type "enumerate") [.ref t]) Q E s := by
  refine callType_new F.called_enumerate (by decide) (F.typeCall_enumerate_1 _) (F.newCall_enumerate_1 _) (fun obj => F.args_object_init_2 obj _) F.entry_enumerate_new (meets_enum_new1 (begins_tuple t items)) ⟨hT, ?_⟩
  have hz : (s.heap.push { cls := .type "tuple_iterator", data := .fields #[.ref t, .int 0 0] }).objs.size = s.heap.objs.size + 1 := Heap.size_push ..
  show _ ∧ _
  rw [hz]
  have he : IsEnum ((s.heap.push { cls := .type "tuple_iterator", data := .fields #[.ref t, .int 0 0] }).push { cls := .type "enumerate", data := .fields #[.none, .bool false, .ref s.heap.objs.size, rawInt 0, .none, .none] }) (s.heap.objs.size + 1) s.heap.objs.size 0 .none := by
    have q := Heap.get?_push_size (s.heap.push { cls := .type "tuple_iterator", data := .fields #[.ref t, .int 0 0] }) (o := { cls := .type "enumerate", data := .fields #[.none, .bool false, .ref s.heap.objs.size, rawInt 0, .none, .none] }) rfl
    rw [hz] at q
    exact q
  refine ⟨⟨_, he, rfl⟩, h _ he ⟨_, Heap.get?_push_of_some _ (Heap.get?_push_size _ rfl), rfl, rfl⟩ (by rw [Heap.size_push, hz]) fun b o x => Heap.get?_push_of_some _ (Heap.get?_push_of_some _ x)⟩

def iEnumA (K : PySem.W.Frag) (ta : TA) : TI := fun σ H R => ta σ H fun vs H1 => ∃ a xs, vs = [.ref a] ∧ ((SqL K H1 a xs ∧ R (Ite K a) H1) ∨ (SqT K H1 a xs ∧ R (IteT K a) H1))
theorem pi_enumA {X : Cx} {e : Expr} {ta : TA} {p1 pos tpos : Pos} {elts : List Expr} {kk : Nat} (hg : Gl X "enumerate") (hm : X.mg "enumerate" = none) (ha : PA X [e] ta) (hs : starEach [e] X.env = [(false, eval e X.env)] := by rfl) :
    PI X (.Tuple elts kk tpos) (.Call (.Name "enumerate" p1) [e] [] pos) (iEnumA X.K ta) := by
  refine ⟨fun pins s σ H R I h => ?_⟩
  refine PyProof.Rows.Call_ (ld_blt I hg hm PyProof.Rows.boot_enumerate (PyProof.Rows.callWith_type1 (thn (ha.run pos pins s σ H _ I h) fun us s1 ⟨vs, H1, I1, r1, q1⟩ => ?_) hs rfl))
  obtain ⟨a, xs, ex, q1⟩ := q1
  subst ex
  cases r1 with
  | cons r rr =>
    cases rr
    cases r
    have fp : ∀ b ∈ [s1.heap.objs.size + 1, s1.heap.objs.size], s1.heap.objs.size ≤ b := fun b hb => by
      rcases (by simpa using hb : b = s1.heap.objs.size + 1 ∨ b = s1.heap.objs.size) with z | z
      · rw [z]; exact Nat.le_add_right _ _
      · rw [z]; exact Nat.le_refl _
    rcases q1 with ⟨hq, q⟩ | ⟨hq, q⟩
    · obtain ⟨its, rv, p', hz⟩ := I1.list hq
      refine call_enumerate_list p'.isList fun h' he hit hsz hk => wpAny_pyIter_enum he ?_
      refine ⟨s1.heap.objs.size + 1, [s1.heap.objs.size + 1, s1.heap.objs.size], _, _, H1, rfl, I1.kept (t' := s1.toks) hk, turn_enum a (s1.heap.objs.size + 1) s1.heap.objs.size, ⟨⟨.none, he⟩, hit, Nat.succ_ne_self _⟩, fun b hb => ?_, q⟩
      exact I1.fpOk (fp b hb) (I1.hok.fresh (fp b hb))
    · obtain ⟨its, rv, p', hz⟩ := I1.tuple hq
      have pt : s1.heap.IsTuple a its.toArray := p'
      have al : a < s1.heap.objs.size := by
        obtain ⟨_, q, _⟩ := pt
        exact Heap.lt_size q
      refine call_enum_tuple pt fun h' he hit hsz hk => wpAny_pyIter_enum he ?_
      refine ⟨s1.heap.objs.size + 1, [s1.heap.objs.size + 1, s1.heap.objs.size], _, _, H1, rfl, I1.kept (t' := s1.toks) hk, turn_enumT a (s1.heap.objs.size + 1) s1.heap.objs.size, ⟨⟨.none, he⟩, hit, Nat.succ_ne_self _, Nat.ne_of_lt al, Nat.ne_of_lt (Nat.lt_succ_of_lt al)⟩, fun b hb => ?_, q⟩
      exact I1.fpOk (fp b hb) (I1.hok.fresh (fp b hb))

section
variable {p : Par} {X : Cx} {e : Expr} {t : TA} {w : WA} {p1 pos : Pos}
theorem its_enumT {O : Addr → Prop} {H : Hp} {a : Addr} {xs : List V} {ds : List D} (h : (¬ O a ∧ H a = some (.tup xs)) ∨ TupK p.K a xs) (r : RpL p O H ds xs) : Itm p O H (IteT p.K a) (enumD 0 ds) := by
  refine ⟨fun H' => SqT p.K H' a xs, YPair (fun i => some (.int (i : Nat))) (fun i => xs[i]?), ?_, fun O' H' g => sqT_gr h g, fun i O' Ha x Hb d g th y e => ?_⟩
  · rw [enumD_len, r.length]
    exact walk_enumT
  · obtain ⟨T, u, v, rfl, hT, rfl, e1, e2⟩ := y
    obtain ⟨db, e3, rfl⟩ := enumD_get e
    obtain ⟨v', e6, rb⟩ := r.get e3
    obtain rfl : v = v' := Option.some.inj (e2.symm.trans e6)
    obtain rfl : V.int (i : Nat) = u := Option.some.inj e1
    refine pair_rp th hT ?_ (Rp.gr g _ _ rb)
    show V.int _ = V.int _
    simp
def iE (w : WA) : WI := fun ρ n Q => w ρ n fun as ρ1 n1 => match as with
  | [.lst ds] => Q (enumD 0 ds) ρ1 n1
  | [.tup ds] => Q (enumD 0 ds) ρ1 n1
  | _ => False
theorem pdi_enum {tpos : Pos} {elts : List Expr} {kk : Nat} (hK : X.K = p.K) (hm : X.mg "enumerate" = none) (ha : PDA p X [e] t w) (hg : Gl X "enumerate" := by rfl) (hs : starEach [e] X.env = [(false, eval e X.env)] := by rfl) :
    PDI p X (.Tuple elts kk tpos) (.Call (.Name "enumerate" p1) [e] [] pos) (iEnumA p.K t) (iE w) := by
  refine ⟨by rw [← hK]; exact pi_enumA hg hm ha.pa hs, fun O0 H0 σ H ρ n Q R S hw k => ?_⟩
  refine ha.sim O0 H0 σ H ρ n _ _ S hw fun ds ρ1 n1 vs H1 q1 S1 r1 x1 => ?_
  split at q1
  · obtain ⟨x, rfl, rx⟩ := rpl1 r1
    obtain ⟨a, xs, rfl, m1, h1, ra⟩ := rx
    exact ⟨a, xs, rfl, .inl ⟨SqL.of h1, k _ ρ1 n1 _ H1 q1 S1 (its_enum m1 h1 ra) x1⟩⟩
  · obtain ⟨x, rfl, rx⟩ := rpl1 r1
    obtain ⟨a, xs, rfl, h1, ra⟩ := rx
    exact ⟨a, xs, rfl, .inr ⟨sqT_of h1, k _ ρ1 n1 _ H1 q1 S1 (its_enumT h1 ra) x1⟩⟩
  · exact q1.elim
end
end DL
end
section
namespace DL
open PySem L2 StX
open PyProof.Rows (envOfC)

/-- a promise where what is left over behind m arguments comes as one tuple -/
def spS (m : Nat) (sp : Sp) : Sp := fun vs H Q E => ∃ ws rest, vs = ws ++ rest ∧ ws.length = m ∧ rest.length ≤ sizeLine ∧ ∀ q, H q = none → sp (ws ++ [V.ref q]) (upd H q (.tup rest)) Q E
def wSt (m : Nat) (wf : WF) : WF := fun ds n Q => (m ≤ ds.length ∧ ds.length ≤ 100000) ∧ wf (ds.take m ++ [.tup (ds.drop m)]) n Q
section
variable {p : Par} {O0 : Addr → Prop} {H0 H : Hp} {σ : St} {ρ : Sl} {n m : Nat} {ds : List D} {vs : List V} {wf : WF} {Q : WQ} {QV : VK}
theorem rest_rp {O : Addr → Prop} {q : Addr} (hq : H q = none) (no : ¬ O q) (r : RpL p O H ds vs) : RpL p O (upd H q (.tup (vs.drop m))) (ds.take m ++ [.tup (ds.drop m)]) (vs.take m ++ [V.ref q]) := by
  have r2 := RpL.gr (gr_new (O := O) (o := .tup (vs.drop m)) hq) _ _ r
  exact (r2.take m).append (.cons ⟨q, _, rfl, .inl ⟨no, upd_same⟩, r2.drop m⟩ rfl)
theorem call_asksS {E : XK} (S : StR p O0 H0 σ H ρ n) (r : RpL p (Own O0 σ ρ) H ds vs) (hw : wSt m wf ds n fun d n2 => Q d ρ n2)
    (k : ∀ d n2 v H', Q d ρ n2 → StR p O0 H0 σ H' ρ n2 → Rp p (Own O0 σ ρ) H' d v → Ext p O0 (Own O0 σ ρ) H (Own O0 σ ρ) H' → QV v H') : spS m (spW p (m + 1) wf) vs H QV E := by
  obtain ⟨⟨h1, h2⟩, hw⟩ := hw
  refine ⟨vs.take m, vs.drop m, (List.take_append_drop m vs).symm, ?_, ?_, fun q hq => ?_⟩
  · rw [List.length_take, ← r.length]; omega
  · exact le_line (by rw [List.length_drop, ← r.length]; omega)
  · have S1 := S.alloc (o := .tup (vs.drop m)) hq
    refine call_asks S1 (rest_rp hq (S.notOwn hq) r) ?_ hw fun d n2 v H' q' S' rv x => k d n2 v H' q' S' rv ((S.extA hq).trans x)
    rw [List.length_append, List.length_take]
    show min m ds.length + 1 = m + 1
    omega
theorem upd_comm {a b : Addr} {o u : HO} (h : a ≠ b) : upd (upd H a o) b u = upd (upd H b u) a o := by
  funext c
  by_cases ca : c = a
  · subst ca
    rw [upd_ne h, upd_same, upd_same]
  · rw [upd_ne ca]
    by_cases cb : c = b
    · subst cb
      rw [upd_same, upd_same]
    · rw [upd_ne cb, upd_ne cb, upd_ne ca]
theorem make_asksS {C : Addr} {wi : WI0} (S : StR p O0 H0 σ H ρ n) (r : RpL p (Own O0 σ ρ) H ds vs) (hw : wSt m wi ds n fun d n2 => Q d ρ n2)
    (kk : ∀ d n2 v H', Q d ρ n2 → StR p O0 H0 σ H' ρ n2 → Rp p (Own O0 σ ρ) H' d v → Ext p O0 (Own O0 σ ρ) H (Own O0 σ ρ) H' → QV v H') {y dx : Addr} (hy : H y = none) (hdx : H dx = none) (ne : dx ≠ y) :
    spS (m + 1) (spI p (m + 1) C wi) (.ref y :: vs) (upd (upd H dx (.own y)) y (.ins C dx [])) (fun v H2 => v = .non ∧ QV (.ref y) H2) E0 := by
  obtain ⟨⟨h1, h2⟩, hw⟩ := hw
  refine ⟨.ref y :: vs.take m, vs.drop m, by simp, ?_, ?_, fun q hq => ?_⟩
  · rw [List.length_cons, List.length_take, ← r.length]; omega
  · exact le_line (by rw [List.length_drop, ← r.length]; omega)
  · have nqy : q ≠ y := fun z => by subst z; rw [upd_same] at hq; cases hq
    rw [upd_ne nqy] at hq
    have nqd : q ≠ dx := fun z => by subst z; rw [upd_same] at hq; cases hq
    rw [upd_ne nqd] at hq
    have e : upd (upd (upd H dx (.own y)) y (.ins C dx [])) q (.tup (vs.drop m)) = upd (upd (upd H q (.tup (vs.drop m))) dx (.own y)) y (.ins C dx []) := by
      rw [upd_comm (Ne.symm nqy), upd_comm (Ne.symm nqd)]
    rw [e]
    have S1 := S.alloc (o := .tup (vs.drop m)) hq
    refine make_asks (N := m + 1) S1 (rest_rp hq (S.notOwn hq) r) ?_ hw (fun d n2 v H' q' S' rv x => kk d n2 v H' q' S' rv ((S.extA hq).trans x)) (by rw [upd_ne (Ne.symm nqy)]; exact hy) (by rw [upd_ne (Ne.symm nqd)]; exact hdx) ne
    rw [List.length_append, List.length_take]
    show min m ds.length + 1 = m + 1
    omega
end

section
variable {P : Program} {w : World} {K : PySem.W.Frag} {mg : Str → Option Value} {base : Heap} {p : Par}
/-- a promise from the body, for both kinds of defs -/
theorem fnStar {x qual pv : Str} {st : Stmt} {f : Addr} {fd : FuncData} {Ns ps : List Str} {k : Nat} {sp : Sp} (F : Fun K x qual st f fd) (S : FnScope Ns (ps ++ [pv]) (defScope st))
    (hbd : ∀ (kV doc pm : Value) (an : Option Addr) (cdv ct : Value) (us rest : List Value), us.length = ps.length → bindArgs (PySem.W.fnOf x qual (defArgs st) (defBody st) (defScope st) .none kV doc pm an cdv ct) ⟨us ++ rest, []⟩ = (newTuple rest >>= fun t => pure (ps.zip us ++ [(pv, t)])))
    (ok : ∀ fd', Fun K x qual st f fd' → ∀ (cdv : Value) (A : Around) (outer : List PySem.Env) (s : Shared) (H : Hp) (vs : List V) (Q : VK) (E : XK), Room k (A.deeper (envOfC qual (defScope st) s.heap.objs.size f cdv)) → sp vs H Q E →
      ∃ t, PSs (cxOf CX0 P w K mg base Ns qual (defScope st) f cdv A outer s H E).nox (defBody st) t ∧ t { nx := fun _ H' => Q .non H', rt := Q } (L2.start Ns vs) H) :
    FnR P w K mg base CX0 (k + 1) f (spS ps.length sp) := by
  obtain ⟨oc, od, kV, doc, pm, an, cdv, ct, osl, rfl, lk, hcd⟩ := F.ex
  refine fn_star lk hcd S cxUp_none (hbd kV doc pm an cdv ct) fun A outer s H vs Q E hr hsp => ?_
  obtain ⟨t, h, q⟩ := ok _ F cdv A outer s H vs Q E hr hsp
  exact ⟨t, h.nox, q⟩
/-- what the body of a def that raises nothing asks -/
theorem bodyD {qual : Str} {st : Stmt} {f : Addr} {Ns ps : List Str} {wf : WF} {N : Nat} {cdv : Value} {A : Around} {outer : List PySem.Env} {s : Shared} {H : Hp} {vs : List V} {Q : VK} {E : XK} (S : FnScope Ns ps (defScope st)) (hN : N = ps.length)
    (hb : ∃ gs t W, PDB p (cxOf CX0 P w K mg base Ns qual (defScope st) f cdv A outer s H E).nox (defBody st) gs t W ∧ ∀ ds n q, ds.length = N → wf ds n q → W { nx := fun _ n => q .non n, rt := q } (slots0 ds (Ns.length - N)) n)
    (h : spW p N wf vs H Q E) : ∃ t, PSs (cxOf CX0 P w K mg base Ns qual (defScope st) f cdv A outer s H E).nox (defBody st) t ∧ t { nx := fun _ H' => Q .non H', rt := Q } (L2.start Ns vs) H := by
  obtain ⟨gs, t, W, pb, hW⟩ := hb
  obtain ⟨O0, ds, n, q, th, hdk, at', r, hl, hw, fin⟩ := h
  refine ⟨t, pb.ps, pb.sim O0 H _ H _ n _ _ (stR_start th hdk at' r hl ?_) (hW ds n q hl hw) ⟨fun σ' H' ρ' n' a s _ _ => fin .non n' _ H' a s.keep s.at_ rfl, fun _ _ _ _ a => a.elim, fun _ _ _ _ a => a.elim, fun d n' v H' a kp at2 rv => fin d n' v H' a kp at2 rv⟩⟩
  have e := congrArg List.length S.pre
  rw [List.length_take] at e
  omega
theorem fnSD {x qual pv : Str} {st : Stmt} {f : Addr} {fd : FuncData} {Ns ps : List Str} {k : Nat} {wf : WF} (F : Fun K x qual st f fd) (S : FnScope Ns (ps ++ [pv]) (defScope st))
    (hbd : ∀ (kV doc pm : Value) (an : Option Addr) (cdv ct : Value) (us rest : List Value), us.length = ps.length → bindArgs (PySem.W.fnOf x qual (defArgs st) (defBody st) (defScope st) .none kV doc pm an cdv ct) ⟨us ++ rest, []⟩ = (newTuple rest >>= fun t => pure (ps.zip us ++ [(pv, t)])))
    (hb : ∀ (cdv : Value) (A : Around) (outer : List PySem.Env) (s : Shared) (H : Hp) (E : XK), Room k (A.deeper (envOfC qual (defScope st) s.heap.objs.size f cdv)) →
      ∃ gs t W, PDB p (cxOf CX0 P w K mg base Ns qual (defScope st) f cdv A outer s H E).nox (defBody st) gs t W ∧ ∀ ds n q, ds.length = ps.length + 1 → wf ds n q → W { nx := fun _ n => q .non n, rt := q } (slots0 ds (Ns.length - (ps.length + 1))) n) :
    FnR P w K mg base CX0 (k + 1) f (spS ps.length (spW p (ps.length + 1) wf)) :=
  fnStar F S hbd fun fd' F' cdv A outer s H vs Q E hr h => bodyD S (by simp) (hb cdv A outer s H E hr) h
/-- an __init__ with a star parameter -/
theorem fnSI {x qual pv : Str} {st : Stmt} {f C : Addr} {fd : FuncData} {Ns ps : List Str} {k m : Nat} {wi : WI0} (c : String) (cp : ClsP p c C) (hm : m + 1 = ps.length) (F : Fun K x qual st f fd) (S : FnScope Ns (ps ++ [pv]) (defScope st))
    (hbd : ∀ (kV doc pm : Value) (an : Option Addr) (cdv ct : Value) (us rest : List Value), us.length = ps.length → bindArgs (PySem.W.fnOf x qual (defArgs st) (defBody st) (defScope st) .none kV doc pm an cdv ct) ⟨us ++ rest, []⟩ = (newTuple rest >>= fun t => pure (ps.zip us ++ [(pv, t)])))
    (bodyI : ∀ {cdv : Value} {A : Around} {outer : List PySem.Env} {s : Shared} {H : Hp} {vs : List V} {Q : VK} {E : XK}, Room k (A.deeper (envOfC qual (defScope st) s.heap.objs.size f cdv)) → spI p (m + 1) C wi vs H Q E →
      ∃ t, PSs (cxOf CX0 P w K mg base Ns qual (defScope st) f cdv A outer s H E).nox (defBody st) t ∧ t { nx := fun _ H' => Q .non H', rt := Q } (L2.start Ns vs) H) :
    FnR P w K mg base CX0 (k + 1) f (spS (m + 1) (spI p (m + 1) C wi)) := by
  rw [hm]
  exact fnStar F S hbd fun fd' F' cdv A outer s H vs Q E hr h => bodyI hr (by rw [hm]; exact h)
end

structure Gis (P : Program) (w : World) (K : PySem.W.Frag) (mg : Str → Option Value) (base : Heap) (p : Par) (C : Addr) (x : Str) (k m : Nat) (wi : WI0) : Prop where
  ex : ∃ (f : Addr), FnR P w K mg base CX0 k f (spS (m + 1) (spI p (m + 1) C wi)) ∧ Mk K C f ∧ mg x = some (.ref C)
structure Gms (P : Program) (w : World) (K : PySem.W.Frag) (mg : Str → Option Value) (base : Heap) (p : Par) (C : Addr) (x : Str) (k m : Nat) (wf : WF) : Prop where
  ex : ∃ (f : Addr), FnR P w K mg base CX0 k f (spS m (spW p (m + 1) wf)) ∧ Meth K C x f
section
variable {p : Par} {X : Cx} {a b c e o : Expr} {es : List Expr} {ta tb tc te : TE} {wa wb wc we : WE} {t : TA} {w : WA} {pos p1 p2 apos : Pos} {x : Str} {C : Addr} {k m N : Nat} {wf : WF} {wi : WI0}
def wStar (we : WE) (w : WA) : WA := fun ρ n Q => we ρ n fun d ρ1 n1 => match d with
  | .tup ds => w ρ1 n1 fun as ρ2 n2 => Q (ds ++ as) ρ2 n2
  | .lst ds => w ρ1 n1 fun as ρ2 n2 => Q (ds ++ as) ρ2 n2
  | _ => False
theorem pda_star (hK : X.K = p.K) (he : PD p X e te we) (hr : PDA p X es t w) (hs : starEach (.Starred e p1 :: es) X.env = (true, eval e X.env) :: starEach es X.env := by rfl) : PDA p X (.Starred e p1 :: es) (tStar p.K te t) (wStar we w) := by
  refine ⟨by rw [← hK]; exact pa_star he.pe hr.pa hs, fun O0 H0 σ H ρ n Q QV S hw k => ?_⟩
  refine he.sim O0 H0 σ H ρ n _ _ S hw fun d ρ1 n1 x H1 q1 S1 r1 x1 => ?_
  split at q1
  · obtain ⟨q, vs, rfl, h1, rl⟩ := r1
    refine ⟨q, vs, rfl, .inl (sqT_of h1), hr.sim O0 H0 σ H1 ρ1 n1 _ _ S1 q1 fun as ρ2 n2 us H2 q2 S2 r2 x2 => k _ ρ2 n2 _ H2 q2 S2 ((RpL.gr x2.gr _ _ rl).append r2) (x1.trans x2)⟩
  · obtain ⟨q, vs, rfl, n1', h1, rl⟩ := r1
    refine ⟨q, vs, rfl, .inr (SqL.of h1), hr.sim O0 H0 σ H1 ρ1 n1 _ _ S1 q1 fun as ρ2 n2 us H2 q2 S2 r2 x2 => k _ ρ2 n2 _ H2 q2 S2 ((RpL.gr x2.gr _ _ rl).append r2) (x1.trans x2)⟩
  · exact q1.elim
theorem sim_makeR (ha : SimA p t w) : SimE p (tMakeR C (spS (m + 1) (spI p (m + 1) C wi)) E0 t) (wMake (wSt m wi) [] w) := by
  intro O0 H0 σ H ρ n Q QV S hw kk
  refine ha O0 H0 σ H ρ n _ _ S hw fun ds ρ1 n1 vs H1 q1 S1 r1 x1 => ?_
  intro y dx hy hdx ne
  rw [List.append_nil] at q1
  exact make_asksS S1 r1 q1 (fun d n2 v H' q S' rv x2 => kk d ρ1 n2 v H' q S' rv (x1.trans x2)) hy hdx ne
theorem pd_mkS (G : Gis X.prog X.w X.K X.mg X.base p C x k m wi) (hr : Room (k + 1) X.A) (ha : PDA p X (e :: es) t w) (hg : Gl X x := by rfl) (hdb : (x == ("__debug__" : Str)) = false := by decide)
    (he : starEach (e :: es) X.env = (false, eval e X.env) :: starEach es X.env := by rfl) (hpl : (backTo pos (starEach es X.env)).any (·.1) = false := by rfl) :
    PD p X (.Call (.Name x p1) (e :: es) [] pos) (tMakeR C (spS (m + 1) (spI p (m + 1) C wi)) E0 t) (wMake (wSt m wi) [] w) := by
  obtain ⟨f, F, M, hm⟩ := G.ex
  exact ⟨pe_makeR M F hr hg hm pass0 ha.pa hdb he hpl, sim_makeR ha.sim⟩
/-- C(e, .., *y) -/
theorem pd_mkSS (G : Gis X.prog X.w X.K X.mg X.base p C x k m wi) (hr : Room (k + 1) X.A) (ha : PDA p X (e :: es) t w) (hg : Gl X x := by rfl) (hdb : (x == ("__debug__" : Str)) = false := by decide)
    (he : starEach (e :: es) X.env = (false, eval e X.env) :: starEach es X.env := by rfl) (hst : (backTo pos (starEach es X.env)).any (·.1) = true := by rfl) :
    PD p X (.Call (.Name x p1) (e :: es) [] pos) (tMakeR C (spS (m + 1) (spI p (m + 1) C wi)) E0 t) (wMake (wSt m wi) [] w) := by
  obtain ⟨f, F, M, hm⟩ := G.ex
  refine ⟨⟨fun pins s σ H Q I h => ?_⟩, sim_makeR ha.sim⟩
  refine wpAny_Call_Name_kw (ld_glob I hg hm ?_ hdb)
  refine PySem.W.callWith_S2 (h₀ := X.base) I.ok.mod.kin M.kp (thn (ha.pa.run pos pins s σ H _ I h) fun us s1 ⟨vs, H1, I1, r, q⟩ => ⟨I1.kIn, ?_⟩) he hst
  exact run_makeR M F hr pass0 I1 r q
/-- o.m(e, ..), m with a star parameter -/
theorem pd_methS (cn mn : String) (cp : ClsP p cn C) (hK : X.K = p.K) (G : Gms X.prog X.w X.K X.mg X.base p C (Str.ofString mn) k m wf) (hr : Room k X.A) (he : PD p X o te we) (ha : PDA p X (e :: es) t w)
    (mk : ∀ {f : Addr} {ta' : TE} {t' : TA}, Room k X.A → FnR X.prog X.w X.K X.mg X.base CX0 k f (spS m (spW p (m + 1) wf)) → Meth X.K C (Str.ofString mn) f → Cls X.K C → PE X o ta' → PA X (e :: es) t' → PE X (.Call (.Attribute o (Str.ofString mn) apos) (e :: es) [] pos) (tMethR C (Str.ofString mn) (spS m (spW p (m + 1) wf)) E0 ta' t') := by
      exact fun hr F M c he ha => pe_methR he c M F hr pass0 ha) :
    PD p X (.Call (.Attribute o (Str.ofString mn) apos) (e :: es) [] pos) (tMethR C (Str.ofString mn) (spS m (spW p (m + 1) wf)) E0 te t) (wMeth cn mn (wSt m wf) [] we w) := by
  obtain ⟨f, F, M⟩ := G.ex
  refine ⟨mk hr F M (by rw [hK]; exact cp.cl) he.pe ha.pa, fun O0 H0 σ H ρ n Q QV S hw kk => ?_⟩
  refine he.sim O0 H0 σ H ρ n _ _ S hw fun d ρ1 n1 x H1 q1 S1 r1 x1 => ?_
  obtain ⟨ns, ds, rfl, hn, q⟩ := onO_get q1
  obtain ⟨a, C', dx, xs, rfl, m1, h1, hc, en, rl⟩ := id r1
  rw [cp.at_] at hc; cases hc
  refine ⟨a, dx, xs, rfl, h1, notin_str en hn, ha.sim O0 H0 σ H1 ρ1 n1 _ _ S1 q fun as ρ2 n2 vs H2 q2 S2 r2 x2 => ?_⟩
  rw [List.append_nil] at q2
  exact call_asksS S2 (.cons (Rp.gr x2.gr _ _ r1) r2) q2 fun d' n3 v H3 q' S' rv x3 => kk d' ρ2 n3 v H3 q' S' rv ((x1.trans x2).trans x3)

end
end DL
end
section
namespace DL
open PySem L2
open PyProof.Rows (seqObj)

/-- one text ahead of another -/
def ltSt (a b : Str) : Bool := decide (a.cps.toList < b.cps.toList)
theorem ltSt_irr (a : Str) : ltSt a a = false := decide_eq_false (List.lt_irrefl _)
theorem ltSt_asym {a b : Str} (h : ltSt a b = true) : ltSt b a = false := decide_eq_false fun z => List.lt_asymm (of_decide_eq_true h) z
theorem ltSt_tr {a b c : Str} (h1 : ltSt a b = false) (h2 : ltSt b c = false) : ltSt a c = false := by
  unfold ltSt at *
  rw [decide_eq_false_iff_not, List.not_lt] at *
  exact List.le_trans h2 h1
theorem swoSt {α : Type} (k : α → Str) : SrtO.Swo fun v u => ltSt (k v) (k u) := ⟨fun _ _ h => ltSt_asym h, fun _ _ _ h1 h2 => by first | exact ltSt_tr h1 h2 | exact ltSt_tr h2 h1⟩

/-- v is a tuple whose first item is the text n -/
def HdIs (h : Heap) (v : Value) (n : Str) : Prop := ∃ (a : Addr) (o : Obj) (t : Tok) (r : List Value) (m : Nat), v = .ref a ∧ h.get? a = some o ∧ o.cls = .type "tuple" ∧ o.data = .seq (.str n t :: r).toArray m
theorem HdIs.keeps {h h' : Heap} {v : Value} {n : Str} (x : HdIs h v n) (k : ∀ b o, h.get? b = some o → o.cls = .type "tuple" → h'.get? b = some o) : HdIs h' v n := by
  obtain ⟨a, o, t, r, m, e, ho, hc, hd⟩ := x
  exact ⟨a, o, t, r, m, e, k a o ho hc, hc, hd⟩
theorem firsts_hd {h : Heap} {k : Value → Str} : ∀ {vs : List Value}, (∀ v ∈ vs, HdIs h v (k v)) → ∃ fs : List Value, PySem.W.KatTups h vs fs ∧ fs.length = vs.length ∧ ∀ f ∈ fs, ∃ x t, f = Value.str x t
  | [], _ => ⟨[], PySem.W.KatTups.nil, rfl, fun _ hm => by simp at hm⟩
  | v :: vs, hp => by
    obtain ⟨fs, h1, h2, h3⟩ := firsts_hd (vs := vs) fun u hm => hp u (List.mem_cons_of_mem _ hm)
    obtain ⟨a, o, t, r, m, e, ho, hc, hd⟩ := hp v List.mem_cons_self
    subst e
    refine ⟨.str (k (.ref a)) t :: fs, PySem.W.KatTups.cons ho hc hd rfl h1, by simp [h2], fun f hm => ?_⟩
    rcases List.mem_cons.mp hm with z | hm
    · exact ⟨_, _, z⟩
    · exact h3 f hm
section
variable {prog : Program} {w : World} {A : Around} {E : Value → Shared → Prop} {s : Shared}
theorem kat_same {b fin : Bool} {Q : Bool → Shared → Prop} : ∀ (l : List Value) (i : Nat), Q fin s → PySem.W.KatLex prog w A b fin Q (l.zip l) i s
  | [], _, h => PySem.W.kat_nil h
  | v :: l, i, h => by
    show PySem.W.KatLex prog w A b fin Q ((v, v) :: l.zip l) i s
    exact PySem.W.kat_cons (PySem.SeqAt.EqAt.same v prog w _ _ (PySem.W.kat_yes (kat_same l (i + 1) h)))
theorem hd_cmp {vs : List Value} {k : Value → Str} (hp : ∀ v ∈ vs, HdIs s.heap v (k v)) (hd : ∀ v ∈ vs, ∀ u ∈ vs, k v = k u → v = u) : SrtO.Cmp prog w A s (PyProof.Rows.tuples' true) (fun p => p.1 ∈ vs) (SrtO.lt2 fun v u => ltSt (k v) (k u)) := by
  intro p q hm hm'
  show wpAny (model prog w) A (PyProof.Rows.keyLt' (PyProof.Rows.tuples' true) p.1 q.1) (fun r s' => s' = s ∧ r = ltSt (k p.1) (k q.1)) (fun _ _ => False) s
  obtain ⟨a, o, t, r, n, e, ho, hc, hd1⟩ := hp _ hm
  obtain ⟨a', o', t', r', n', e', ho', hc', hd2⟩ := hp _ hm'
  by_cases c : k p.1 = k q.1
  · have z := hd _ hm _ hm' c
    rw [← z]
    generalize k p.1 = kk at *
    rw [e]
    refine PySem.W.kat_lt ho hd1 ho hd1 ?_
    have e2 : decide ((Value.str kk t :: r).toArray.size < (Value.str kk t :: r).toArray.size) = false := decide_eq_false (Nat.lt_irrefl _)
    rw [e2]
    exact kat_same _ 0 ⟨rfl, (ltSt_irr _).symm⟩
  · rw [e, e'] at c ⊢
    rw [e] at hd1
    rw [e'] at hd2
    refine PySem.W.kat_lt ho hd1 ho' hd2 ?_
    have ez : ((Value.str (k (.ref a)) t :: r).toArray.toList.zip (Value.str (k (.ref a')) t' :: r').toArray.toList) = (Value.str (k (.ref a)) t, Value.str (k (.ref a')) t') :: r.zip r' := by simp
    rw [ez]
    refine PySem.W.kat_cons ?_
    refine PySem.SeqAt.EqAt.str_str (k (.ref a)) t (k (.ref a')) t' prog w _ _ ?_
    refine PySem.W.kat_go (fun e1 => ?_) (fun e1 => ?_)
    · exact absurd (by simpa using e1) c
    · exact PySem.W.kat_no (PyProof.Rows.oneLt_any_str ⟨rfl, rfl⟩)
theorem hd_sortable {a : Addr} {vs : List Value} {k : Value → Str} (h0 : 0 < vs.length) (hp : ∀ v ∈ vs, HdIs s.heap v (k v)) (hd : ∀ v ∈ vs, ∀ u ∈ vs, k v = k u → v = u) (ha : ∀ o, s.heap.get? a = some o → o.cls ≠ .type "tuple") :
    SrtO.SortableO prog w A s a vs fun v u => ltSt (k v) (k u) := by
  intro h' keep
  have hp' : ∀ v ∈ vs, HdIs h' v (k v) := fun v hm => (hp v hm).keeps fun b o e c => keep b o (fun z => by subst z; exact ha o e c) e
  obtain ⟨fs, h1, h2, h3⟩ := firsts_hd hp'
  refine ⟨PyProof.Rows.tuples' true, fun Q E hq => ?_, hd_cmp hp' hd⟩
  refine PySem.W.kat_kind (T := .type "str") h1 (by omega) (fun f hm => ?_) (by rfl) ?_
  · obtain ⟨x, t, rfl⟩ := h3 f hm
    exact PySem.W.Looks.now
  · have e : (Value.type "str" != Value.type "tuple") = true := by first | decide +kernel | rfl | decide
    rw [e]
    exact hq
/-- sorted of a list or a tuple: what is new, however it is collected -/
theorem sorted_any {l : Addr} {vs : List Value} {ltv : Value → Value → Bool} {Q : Value → Shared → Prop} (O : SrtO.Swo ltv) (hl : s.heap.IsList l vs.toArray ∨ s.heap.IsTuple l vs.toArray) (hz : vs.length ≤ sizeLine)
    (hS : 2 ≤ vs.length → ∀ (h1 : Heap) (a : Addr), h1.get? a = some (seqObj "list" vs.toArray 0) → (∀ b o, s.heap.get? b = some o → b ≠ a ∧ h1.get? b = some o) → SrtO.SortableO prog w A.in1.in1 { s with heap := h1 } a vs ltv)
    (h : ∀ (h1 h' : Heap) (d : Addr) (out : List Value), SrtO.Srtd ltv out → SrtO.Stb ltv out vs → (∀ b o, s.heap.get? b = some o → h1.get? b = some o) → (∀ b o, h1.get? b = some o → h'.get? b = some o) → h1.objs.size ≤ d → (∃ n, h'.get? d = some (seqObj "list" out.toArray n)) → Q (.ref d) { s with heap := h' }) :
    wpAny (model prog w) A (call (.builtin "sorted") [.ref l]) Q E s := by
  refine Calls.call_function_entry PyProof.Rows.kind_sorted PyProof.Rows.plain_sorted PyProof.Rows.entry_sorted (PyProof.Rows.args_sorted1 _) ?_
  unfold Builtin.«sorted»
  refine wpAny_bind (m := checkCount "sorted" 1 1 _) (wpAny_pure ?_)
  have col : ∀ {R : List Value → Shared → Prop} {E' : Value → Shared → Prop}, (∀ h', (∀ b o', s.heap.get? b = some o' → h'.get? b = some o') → R vs { s with heap := h' }) → wpAny (model prog w) A.in1 (collect (.ref l)) R E' s := fun {R E'} hR => by
    have e : vs.toArray.toList = vs := by simp
    rcases hl with hl | hl <;> obtain ⟨o, ho, hc, n, hd⟩ := hl
    · exact wpAny_collect_seq l (.inl rfl) ho hc hd (fun h' k => by rw [e]; exact hR h' k) (by simpa using hz)
    · exact wpAny_collect_seq l (.inr rfl) ho hc hd (fun h' k => by rw [e]; exact hR h' k) (by simpa using hz)
  refine wpAny_bind (col fun h' k => ?_)
  refine wpAny_bind (wpAny_newList ?_ hz)
  have hoL : (h'.push (seqObj "list" vs.toArray 0)).get? h'.objs.size = some (seqObj "list" vs.toArray 0) := Heap.get?_push_size _ rfl
  have keep : ∀ b o, s.heap.get? b = some o → b ≠ h'.objs.size ∧ (h'.push (seqObj "list" vs.toArray 0)).get? b = some o := fun b o q => by
    have q2 := k b o q
    exact ⟨Nat.ne_of_lt (Heap.lt_size q2), Heap.get?_push_of_some _ q2⟩
  show wpAny _ _ _ _ _ { s with heap := h'.push (seqObj "list" vs.toArray 0) }
  refine wpAny_bind (wpAny_holding (wpAny_call_entry PyProof.Rows.slot_list_sort ⟨_, hoL, rfl⟩ PyProof.Rows.entry_list_sort (SrtO.list_sort_ord O hoL hz (fun h2 => hS h2 _ _ hoL keep) fun out hs hb => ⟨_, rfl, ?_⟩) (PyProof.Rows.args_list_sort _)))
  refine wpAny_pure ⟨_, rfl, h h' _ _ out hs hb k (fun b o q => ?_) (Nat.le_refl _) (PyProof.Rows.sortedHeap_at hoL)⟩
  have hlt : b < h'.objs.size := Heap.lt_size q
  show (PyProof.Rows.sortedHeap (h'.push (seqObj "list" vs.toArray 0)) h'.objs.size vs out.toArray).get? b = some o
  rw [PyProof.Rows.sortedHeap_old (Nat.ne_of_lt hlt) (by rw [PyProof.Rows.size_push']; exact Nat.lt_succ_of_lt hlt)]
  exact Heap.get?_push_of_some _ q
end
end DL
end
section
namespace DL
open PySem L2

theorem nodup_inj {α β : Type} {k : α → β} : ∀ {l : List α}, (l.map k).Nodup → ∀ v ∈ l, ∀ u ∈ l, k v = k u → v = u
  | [], _, v, hv, _, _, _ => absurd hv (by simp)
  | a :: l, h, v, hv, u, hu, e => by
    rw [List.map_cons, List.nodup_cons] at h
    rcases List.mem_cons.mp hv with z1 | hv2 <;> rcases List.mem_cons.mp hu with z2 | hu2
    · rw [z1, z2]
    · exact absurd (List.mem_map.mpr ⟨u, hu2, by rw [← e, z1]⟩) h.1
    · exact absurd (List.mem_map.mpr ⟨v, hv2, by rw [e, z2]⟩) h.1
    · exact nodup_inj h.2 v hv2 u hu2 e
theorem HdIs.inj {h : Heap} {v : Value} {n m : Str} (x : HdIs h v n) (y : HdIs h v m) : n = m := by
  obtain ⟨a, o, t, r, i, e, ho, hc, hd⟩ := x
  obtain ⟨a', o', t', r', i', e', ho', hc', hd'⟩ := y
  rw [e] at e'; cases e'
  rw [ho] at ho'; cases ho'
  rw [hd] at hd'
  injection hd' with h1 _
  have h2 := congrArg Array.toList h1
  simp at h2
  exact h2.1.1
noncomputable def hdOf (h : Heap) (v : Value) : Str := open Classical in if q : ∃ n, HdIs h v n then q.choose else Str.empty
theorem hdOf_eq {h : Heap} {v : Value} {n : Str} (x : HdIs h v n) : hdOf h v = n := by
  unfold hdOf
  rw [dif_pos ⟨n, x⟩]
  exact (Exists.choose_spec (⟨n, x⟩ : ∃ n, HdIs h v n)).inj x
/-- sorted(xs), xs a list or a tuple of tuples whose first items are texts, all different -/
def rSortT (K : PySem.W.Frag) : List V → Hp → VK → Prop := fun vs H Q => ∃ (a : Addr) (L : List (Str × V)), vs = [V.ref a] ∧ (SqL K H a (L.map (·.2)) ∨ SqT K H a (L.map (·.2))) ∧ (∀ q ∈ L, ∃ t r, q.2 = V.ref t ∧ SqT K H t (V.str q.1 :: r)) ∧ (L.map (·.1)).Nodup ∧
  ∀ (M : List (Str × V)) (p : Addr), M.Perm L → M.Pairwise (fun a b => ltSt b.1 a.1 = false) → H p = none → Q (.ref p) (upd H p (.lst (M.map (·.2))))
theorem pair_back {h : Heap} : ∀ {L : List (Str × V)} {us : List Value}, L2.Vals (L.map (·.2)) us → (∀ q ∈ L, ∃ t, q.2 = V.ref t ∧ HdIs h (.ref t) q.1) → L = us.map (fun u => (hdOf h u, backV u)) ∧ (∀ u ∈ us, (∃ a, u = Value.ref a) ∧ HdIs h u (hdOf h u))
  | [], _, r, _ => by cases r; exact ⟨rfl, fun u hu => absurd hu (by simp)⟩
  | q :: L, us, r, hq => by
    cases r with
    | cons r1 r2 =>
      rename_i u us
      obtain ⟨t, e, hh⟩ := hq q List.mem_cons_self
      obtain ⟨h1, h2⟩ := pair_back r2 fun q' hm => hq q' (List.mem_cons_of_mem _ hm)
      have r1 : RelV q.2 u := r1
      rw [e] at r1
      obtain rfl : u = Value.ref t := r1
      refine ⟨?_, fun u hu => ?_⟩
      · rw [List.map_cons, ← h1, hdOf_eq hh]
        show q :: L = (q.1, V.ref t) :: L
        rw [← e]
      · rcases List.mem_cons.mp hu with rfl | hu
        · exact ⟨⟨t, rfl⟩, by rw [hdOf_eq hh]; exact hh⟩
        · exact h2 u hu
section
variable {X : Cx}
theorem cr_sortT : CallR X (.builtin "sorted") (rSortT X.K) := by
  intro pins s σ H vs us Q I r h
  obtain ⟨a, L, rfl, hs, hx, hn, q⟩ := h
  obtain ⟨u, rfl, ru⟩ := vals1 r
  obtain rfl : u = Value.ref a := ru
  obtain ⟨its, rv, hl, hz⟩ : ∃ its : List Value, L2.Vals (L.map (·.2)) its ∧ (s.heap.IsList a its.toArray ∨ s.heap.IsTuple a its.toArray) ∧ (L.map (·.2)).length ≤ sizeLine := by
    rcases hs with hs | hs
    · obtain ⟨its, rv, hl, hz⟩ := I.list hs
      exact ⟨its, rv, .inl hl.isList, hz⟩
    · obtain ⟨its, rv, hl, hz⟩ := I.tuple hs
      exact ⟨its, rv, .inr hl, hz⟩
  have hq : ∀ q ∈ L, ∃ t, q.2 = V.ref t ∧ HdIs s.heap (.ref t) q.1 := fun q hm => by
    obtain ⟨t, r, e, ht⟩ := hx q hm
    obtain ⟨its2, r2, ⟨o, ho, hc, n, hd⟩, _⟩ := I.tuple ht
    cases r2 with
    | cons r3 r4 =>
      rename_i u' us'
      obtain ⟨tk, rfl⟩ := r3
      exact ⟨t, e, t, o, tk, us', n, rfl, ho, hc, hd⟩
  obtain ⟨e1, e2⟩ := pair_back rv hq
  have hk : (its.map (hdOf s.heap)).Nodup := by
    rw [e1, List.map_map] at hn
    exact hn
  refine sorted_any (swoSt (hdOf s.heap)) hl (by rw [← rv.length]; exact hz) (fun h2 h1 a ha kp => ?_) fun h1 h' d out s1 s2 k1 k2 hd hout => ?_
  · refine hd_sortable (s := { s with heap := h1 }) (by omega) (fun v hv => ?_) (nodup_inj hk) fun o e c => ?_
    · exact (e2 v hv).2.keeps fun b o q _ => (kp b o q).2
    · have e' : some o = some (PyProof.Rows.seqObj "list" its.toArray 0) := e.symm.trans ha
      cases e'
      exact absurd (Value.type.inj c) (by decide)
  · have h3 : ∀ u ∈ out, ∃ a, u = Value.ref a := fun u hu => (e2 u (s2.perm.mem_iff.mp hu)).1
    have I1 : L2.Inv X pins σ H { s with heap := h1 } := I.kept (t' := s.toks) k1
    have hM : (out.map fun u => (hdOf s.heap u, backV u)).Perm L := by
      rw [e1]
      exact s2.perm.map _
    have hm2 : ((out.map fun u => (hdOf s.heap u, backV u)).map (·.2)) = out.map backV := by rw [List.map_map]; rfl
    obtain ⟨n, hn2⟩ := hout
    refine ⟨.ref d, upd H d (.lst (out.map backV)), I1.laid (t' := s.toks) k2 hd ⟨?_, out, n, vals_back h3, hn2⟩, rfl, ?_⟩
    · rw [List.length_map, s2.perm.length_eq, ← rv.length]
      exact hz
    · have z := q _ d hM (List.pairwise_map.mpr s1) (I1.hok.fresh hd)
      rw [hm2] at z
      exact z
end

def nameD : D → Option Str
  | .tup (.str n :: _) => some n
  | _ => none
def seqD : D → Option (List D)
  | .lst ds => some ds
  | .tup ds => some ds
  | _ => none
def All2 {α β : Type} (R : α → β → Prop) : List α → List β → Prop
  | [], [] => True
  | a :: as, b :: bs => R a b ∧ All2 R as bs
  | _, _ => False
theorem All2.perm {α β : Type} {R : α → β → Prop} {m l : List β} (h : m.Perm l) : ∀ {ds : List α}, All2 R ds l → ∃ es, es.Perm ds ∧ All2 R es m := by
  induction h with
  | nil => intro ds a; exact ⟨ds, List.Perm.refl _, a⟩
  | cons x _ ih =>
    intro ds a
    cases ds with
    | nil => exact a.elim
    | cons d ds =>
      obtain ⟨es, p, b⟩ := ih a.2
      exact ⟨d :: es, p.cons d, a.1, b⟩
  | swap x y l =>
    intro ds a
    cases ds with
    | nil => exact a.elim
    | cons d ds => cases ds with
      | nil => exact a.2.elim
      | cons e ds => exact ⟨e :: d :: ds, List.Perm.swap .., a.2.1, a.1, a.2.2⟩
  | trans _ _ ih1 ih2 =>
    intro ds a
    obtain ⟨es, p, b⟩ := ih2 a
    obtain ⟨es2, p2, b2⟩ := ih1 b
    exact ⟨es2, p2.trans p, b2⟩
section
variable {p : Par} {X : Cx} {e : Expr} {es : List Expr} {t : TA} {w : WA} {pos p1 : Pos}
theorem name_sq {O : Addr → Prop} {H : Hp} {d : D} {x : V} {n : Str} (r : Rp p O H d x) (h : nameD d = some n) : ∃ t r, x = V.ref t ∧ SqT p.K H t (V.str n :: r) := by
  unfold nameD at h
  split at h
  · rename_i m ds
    cases h
    obtain ⟨a, vs, rfl, h1, rl⟩ := r
    obtain ⟨y, ys, rfl, ry, _⟩ := rl
    obtain rfl : y = V.str n := ry
    exact ⟨a, ys, rfl, sqT_of h1⟩
  · cases h
theorem seq_sq {O : Addr → Prop} {H : Hp} {d : D} {x : V} {ds : List D} (r : Rp p O H d x) (h : seqD d = some ds) : ∃ a vs, x = V.ref a ∧ (SqL p.K H a vs ∨ SqT p.K H a vs) ∧ RpL p O H ds vs := by
  cases d <;> first | cases h | skip
  · obtain ⟨a, vs, rfl, h1, rl⟩ := r
    exact ⟨a, vs, rfl, .inr (sqT_of h1), rl⟩
  · obtain ⟨a, vs, rfl, n1, h1, rl⟩ := r
    exact ⟨a, vs, rfl, .inl (SqL.of h1), rl⟩
theorem zip_all {O : Addr → Prop} {H : Hp} : ∀ {ds : List D} {ns : List Str} {vs : List V}, RpL p O H ds vs → ds.map nameD = ns.map some → (ns.zip vs).map (·.2) = vs ∧ (ns.zip vs).map (·.1) = ns ∧ All2 (fun d (q : Str × V) => Rp p O H d q.2 ∧ nameD d = some q.1) ds (ns.zip vs)
  | [], ns, vs, r, e => by
    cases r
    cases ns with
    | nil => exact ⟨rfl, rfl, trivial⟩
    | cons _ _ => cases e
  | d :: ds, ns, vs, r, e => by
    cases ns with
    | nil => cases e
    | cons n ns =>
      rw [List.map_cons, List.map_cons, List.cons.injEq] at e
      obtain ⟨x, xs, rfl, r1, r2⟩ := r
      obtain ⟨h1, h2, h3⟩ := zip_all r2 e.2
      exact ⟨by rw [List.zip_cons_cons, List.map_cons, h1], by rw [List.zip_cons_cons, List.map_cons, h2], ⟨r1, e.1⟩, h3⟩
theorem all2_rp {O : Addr → Prop} {H : Hp} : ∀ {ds : List D} {M : List (Str × V)}, All2 (fun d (q : Str × V) => Rp p O H d q.2 ∧ nameD d = some q.1) ds M → RpL p O H ds (M.map (·.2)) ∧ ds.map nameD = (M.map (·.1)).map some
  | [], [], _ => ⟨rfl, rfl⟩
  | [], _ :: _, h => h.elim
  | _ :: _, [], h => h.elim
  | d :: ds, q :: M, h => by
    obtain ⟨h1, h2⟩ := all2_rp h.2
    exact ⟨.cons h.1.1 h1, by rw [List.map_cons, List.map_cons, List.map_cons, h2, h.1.2]⟩
theorem all2_mem {α β : Type} {R : α → β → Prop} : ∀ {as : List α} {bs : List β}, All2 R as bs → ∀ b ∈ bs, ∃ a, R a b
  | [], [], _, b, h => absurd h (by simp)
  | [], _ :: _, h, _, _ => h.elim
  | _ :: _, [], h, _, _ => h.elim
  | a :: as, b :: bs, h, c, hc => by
    rcases List.mem_cons.mp hc with rfl | hc
    · exact ⟨a, h.1⟩
    · exact all2_mem h.2 c hc
def wSortT (w : WA) : WE := fun ρ n Q => w ρ n fun as ρ1 n1 => match as with
  | [d] => ∃ (ds : List D) (ns : List Str), seqD d = some ds ∧ ds.map nameD = ns.map some ∧ ns.Nodup ∧ ∀ (es : List D) (ms : List Str), es.Perm ds → es.map nameD = ms.map some → ms.Pairwise (fun a b => ltSt b a = false) → Q (.lst es) ρ1 n1
  | _ => False
theorem pd_sortT (hK : X.K = p.K) (hm : X.mg "sorted" = none) (ha : PDA p X (e :: es) t w) (hg : Gl X "sorted" := by rfl) (he : starEach (e :: es) X.env = (false, eval e X.env) :: starEach es X.env := by rfl) (hpl : (backTo pos (starEach es X.env)).any (·.1) = false := by rfl) :
    PD p X (.Call (.Name "sorted" p1) (e :: es) [] pos) (tCB (rSortT p.K) t) (wSortT w) := by
  refine ⟨by rw [← hK]; exact pe_callB cr_sortT hg hm (by decide +kernel) ha.pa (by decide) (by decide) he hpl, fun O0 H0 σ H ρ n Q QV S hw k => ?_⟩
  refine ha.sim O0 H0 σ H ρ n _ _ S hw fun as ρ1 n1 vs H1 q1 S1 r1 x1 => ?_
  split at q1
  · obtain ⟨ds, ns, es', en, nd, q⟩ := q1
    obtain ⟨x, rfl, rx⟩ := rpl1 r1
    obtain ⟨a, us, rfl, hs, rl⟩ := seq_sq rx es'
    obtain ⟨z1, z2, z3⟩ := zip_all rl en
    refine ⟨a, ns.zip us, rfl, by rw [z1]; exact hs, fun q hq => ?_, by rw [z2]; exact nd, fun M u hM hp hu => ?_⟩
    · obtain ⟨d, r, hn⟩ := all2_mem z3 q hq
      exact name_sq r hn
    · obtain ⟨fs, pf, af⟩ := z3.perm hM
      obtain ⟨rf, nf⟩ := all2_rp af
      refine k _ ρ1 n1 _ _ (q fs _ pf nf (List.pairwise_map.mpr hp)) (S1.alloc hu) ⟨u, _, rfl, S1.notOwn hu, upd_same, RpL.gr (S1.extA hu).gr _ _ rf⟩ (x1.trans (S1.extA hu))
  · exact q1.elim
def strD : D → Option Str
  | .str n => some n
  | _ => none
theorem strD_map : ∀ {ds : List D} {ns : List Str}, ds.map strD = ns.map some → ds = ns.map D.str
  | [], [], _ => rfl
  | [], _ :: _, h => by cases h
  | _ :: _, [], h => by cases h
  | d :: ds, n :: ns, h => by
    rw [List.map_cons, List.map_cons, List.cons.injEq] at h
    rw [strD_map h.2]
    have e := h.1
    cases d <;> first | cases e | skip
    rfl
theorem rising_all : ∀ {l : List Str} {x : Str}, PyProof.Rows.risingS x l = true → ∀ y ∈ l, ltSt y x = false
  | [], _, _, y, hy => absurd hy (by simp)
  | z :: l, x, h, y, hy => by
    unfold PyProof.Rows.risingS at h
    rw [Bool.and_eq_true, Bool.not_eq_true', PyProof.Rows.ltCps_eq] at h
    have h1 : ltSt z x = false := h.1
    rcases List.mem_cons.mp hy with rfl | hy
    · exact h1
    · exact ltSt_tr (rising_all h.2 y hy) h1
theorem rising_pw : ∀ {l : List Str} {x : Str}, PyProof.Rows.risingS x l = true → l.Pairwise fun a b => ltSt b a = false
  | [], _, _ => List.Pairwise.nil
  | z :: l, x, h => by
    unfold PyProof.Rows.risingS at h
    rw [Bool.and_eq_true] at h
    exact List.pairwise_cons.mpr ⟨rising_all h.2, rising_pw h.2⟩
theorem sortedS_pw {l : List Str} (h : PyProof.Rows.sortedS l = true) : l.Pairwise fun a b => ltSt b a = false := by
  cases l with
  | nil => exact List.Pairwise.nil
  | cons x r => exact List.pairwise_cons.mpr ⟨rising_all h, rising_pw h⟩
def wSortS (w : WA) : WE := fun ρ n Q => w ρ n fun as ρ1 n1 => match as with
  | [.lst ds] => ∃ ns : List Str, ds.map strD = ns.map some ∧ ns.length < 64 ∧ ∀ ms : List Str, ms.Perm ns → ms.Pairwise (fun a b => ltSt b a = false) → Q (.lst (ms.map D.str)) ρ1 n1
  | _ => False
theorem pd_sortS (hK : X.K = p.K) (hm : X.mg "sorted" = none) (ha : PDA p X (e :: es) t w) (hg : Gl X "sorted" := by rfl) (he : starEach (e :: es) X.env = (false, eval e X.env) :: starEach es X.env := by rfl) (hpl : (backTo pos (starEach es X.env)).any (·.1) = false := by rfl) :
    PD p X (.Call (.Name "sorted" p1) (e :: es) [] pos) (tCB (rSortedS p.K) t) (wSortS w) := by
  refine ⟨by rw [← hK]; exact pe_callB cr_sortedS hg hm (by decide +kernel) ha.pa (by decide) (by decide) he hpl, fun O0 H0 σ H ρ n Q QV S hw k => ?_⟩
  refine ha.sim O0 H0 σ H ρ n _ _ S hw fun as ρ1 n1 vs H1 q1 S1 r1 x1 => ?_
  split at q1
  · obtain ⟨ns, en, hl, q⟩ := q1
    obtain ⟨x, rfl, rx⟩ := rpl1 r1
    obtain ⟨a, us, rfl, m1, h1, rl⟩ := rx
    rw [strD_map en] at rl
    have e2 := RpL.mapS rl
    subst e2
    refine ⟨a, ns, rfl, SqL.of h1, hl, fun ys u hp hs hu => ?_⟩
    exact k _ ρ1 n1 _ _ (q ys hp (sortedS_pw hs)) (S1.alloc hu) ⟨u, _, rfl, S1.notOwn hu, upd_same, RpL.ofS ys⟩ (x1.trans (S1.extA hu))
  · exact q1.elim
end
end DL
end
section
namespace DL
open PySem L2

def keyD : D → Option Key
  | .int i => some (.inl i)
  | .str s => some (.inr s)
  | _ => none
def findD (k : Key) : List Key → List D → Option D
  | k' :: ks, d :: ds => if k' = k then some d else findD k ks ds
  | _, _ => none
section
variable {p : Par} {O : Addr → Prop} {H : Hp}
theorem key_v {d : D} {x : V} {k : Key} (r : Rp p O H d x) (h : keyD d = some k) : x = kV k := by
  cases d <;> first | cases h | skip
  · exact r
  · exact r
theorem find_rp {k : Key} : ∀ {ks : List Key} {ds : List D} {xs : List (Key × V)}, xs.map (·.1) = ks → RpL p O H ds (xs.map (·.2)) → match findD k ks ds with
    | some d => ∃ v, valV xs k = some v ∧ Rp p O H d v
    | none => valV xs k = none
  | [], ds, [], _, r => by cases ds <;> rfl
  | [], _, _ :: _, e, _ => by cases e
  | _ :: _, _, [], e, _ => by cases e
  | k' :: ks, ds, (m, u) :: xs, e, r => by
    simp only [List.map_cons, List.cons.injEq] at e
    obtain ⟨rfl, e⟩ := e
    cases ds with
    | nil => cases r
    | cons d ds =>
      obtain ⟨y, yr, e2, r1, r2⟩ := r
      simp only [List.map_cons, List.cons.injEq] at e2
      obtain ⟨rfl, rfl⟩ := e2
      unfold findD
      by_cases c : m = k
      · rw [if_pos c]
        exact ⟨u, valV_pos c, r1⟩
      · rw [if_neg c]
        rw [valV_neg (p := (m, u)) c]
        exact find_rp e r2
end

def compDW (wg : WG) (wt : WT) (wk wv : WE) (vs : List Nat) : List D → List Key → List D → Sl → Nat → (List Key → List D → Sl → Nat → Prop) → Prop
  | [], ks, acc, ρ, n, Q => Q ks acc ρ n
  | d :: ds, ks, acc, ρ, n, Q => wg d ρ n fun ρ1 n1 => wt ρ1 n1 fun b ρ2 n2 =>
    if b = true then wk ρ2 n2 fun y ρ3 n3 => wv ρ3 n3 fun z ρ4 n4 => ∃ k, keyD y = some k ∧ k ∉ ks ∧ ks.length < 100000 ∧ noOwn ρ4 vs = true ∧ compDW wg wt wk wv vs ds (ks ++ [k]) (acc ++ [z]) (wipeS ρ4 vs) n4 Q
    else noOwn ρ2 vs = true ∧ compDW wg wt wk wv vs ds ks acc (wipeS ρ2 vs) n2 Q
def wDc (wi : WI) (wg : WG) (wt : WT) (wk wv : WE) (vs : List Nat) : WE := fun ρ n Q => wi ρ n fun ds ρ1 n1 => noOwn ρ1 vs = true ∧ compDW wg wt wk wv vs ds [] [] (wipeS ρ1 vs) n1 fun ks acc ρ2 n2 => noOwn ρ2 vs = true ∧ ρ2.length = ρ1.length ∧ Q (.dic ks acc) (backS ρ1 ρ2 vs) n2
theorem dc_it {J : It} {n : Nat} {G : Hp → Prop} {Y : Nat → Hp → V → Hp → Prop} (w : Walk J n G Y) {g : TG} {tt : TT} {tk tv : TE} {vs : List Nat} {σ : St} {H1 : Hp} {D : Addr} {Qd : Hp → Prop} (Pv : Nat → Hp → Prop) (h0 : Pv 0 (upd H1 D (.dK []))) (hG : ∀ i H, i ≤ n → Pv i H → G H)
    (hs : ∀ i x H H', i < n → Pv i H → Y i H x H' → g x (wipe σ vs) H' fun σ2 H2 => wipe σ2 vs = wipe σ vs ∧ tt σ2 H2 fun b H3 =>
      if b = true then tk σ2 H3 fun y H4 => tv σ2 H4 fun z H5 => ∃ kvs k, y = kV k ∧ H5 D = some (.dK kvs) ∧ kvs.length < sizeLine ∧ Pv (i + 1) (upd H5 D (.dK (putK kvs k z))) else Pv (i + 1) H3) (hd : ∀ H, Pv n H → Qd H) :
    ∃ W : Nat → Nat → Hp → Prop, (∃ m, W 0 m (upd H1 D (.dK []))) ∧ ∀ i m H, W i m H →
      (J.stop i H ∧ Qd H) ∨ (J.go i H ∧ ∃ Nx : Hp → Prop, (∀ H', Nx H' → ∃ m', m' < m ∧ W (i + 1) m' H') ∧ ∀ x H', J.yld i H x H' → g x (wipe σ vs) H' fun σ2 H2 => wipe σ2 vs = wipe σ vs ∧ tt σ2 H2 fun b H3 =>
        if b = true then tk σ2 H3 fun y H4 => tv σ2 H4 fun z H5 => ∃ kvs k, y = kV k ∧ H5 D = some (.dK kvs) ∧ kvs.length < sizeLine ∧ Nx (upd H5 D (.dK (putK kvs k z))) else Nx H3) := by
  refine ⟨fun i m H => m = n - i ∧ i ≤ n ∧ Pv i H, ⟨n, by simp, Nat.zero_le _, h0⟩, ?_⟩
  rintro i m H ⟨rfl, hi, pv⟩
  have q := hG i H hi pv
  rcases Nat.lt_or_ge i n with hlt | hge
  · exact .inr ⟨w.goes i H hlt q, Pv (i + 1), fun H' p' => ⟨n - (i + 1), by omega, rfl, hlt, p'⟩, fun x H' y => hs i x H H' hlt pv (w.yields i H x H' hlt q y)⟩
  · have e : i = n := by omega
    subst e
    exact .inl ⟨w.stops H q, hd H pv⟩
section
variable {p : Par} {X : Cx} {kx vx tg iter : Expr} {ifs : List Expr} {scope : Scope} {own : List (Str × Nat)} {pos : Pos} {ti : TI} {g : TG} {tt : TT} {tk tv : TE} {wi : WI} {wg : WG} {wt : WT} {wk wv : WE} {gs : List Nat}
theorem sim_dc {vs : List Nat} (hi : SimI p ti wi) (hg : SimG p gs g wg) (ht : SimT p tt wt) (hk : SimE p tk wk) (he : SimE p tv wv) (hs : ∀ i ∈ gs, i ∈ vs) : SimF p (tDc ti g tt tk tv vs) (wDc wi wg wt wk wv vs) := by
  intro O0 H0 σ H ρ n Q QV S hw k
  refine hi O0 H0 σ H ρ n _ _ S hw fun ds ρ1 n1 J H1 q1 S1 I1 x1 => ?_
  intro D hD
  obtain ⟨hno, q1⟩ := q1
  obtain ⟨G, Y, wlk, hG, hY⟩ := I1.ex
  have nO : ¬ O0 D := fun z => S1.notOwn hD (.inl z)
  have nd : ¬ p.dk D := fun z => nO (S1.dk D z)
  have h0D : H0 D = none := S1.h0 hD
  have xF := S1.extF (o := .dK []) hD
  have SF := S1.fresh (o := .dK []) hD
  have hσw : ∀ j, j ∉ vs → (wipe σ vs)[j]? = σ[j]? := fun j c => wipe_out' c
  have SW := SF.wipe (vs := vs) (σ' := wipe σ vs) hno (wipe_length σ vs) hσw
  have gW : Gr (Own (And1 O0 D) σ ρ1) (upd H1 D (.dK [])) (Own (And1 O0 D) (wipe σ vs) (wipeS ρ1 vs)) (upd H1 D (.dK [])) := fun a o no e => ⟨fun z => no ((own_wipe hno hσw).mp z), e⟩
  refine dc_it (vs := vs) wlk (fun i Ha => ∃ ρ' n' ks acc us, StR p (And1 O0 D) H0 (wipe σ vs) Ha ρ' n' ∧ Ha D = some (.dK us) ∧ us.map (·.1) = ks ∧ RpL p (Own (And1 O0 D) (wipe σ vs) ρ') Ha acc (us.map (·.2)) ∧ Gr (Own O0 σ ρ1) H1 (Own (And1 O0 D) (wipe σ vs) ρ') Ha ∧
      (∀ a o, O0 a → ¬ p.dk a → H1 a = some o → Ha a = some o) ∧ compDW wg wt wk wv vs (ds.drop i) ks acc ρ' n' fun ks acc ρ2 n2 => noOwn ρ2 vs = true ∧ ρ2.length = ρ1.length ∧ Q (.dic ks acc) (backS ρ1 ρ2 vs) n2)
    ⟨wipeS ρ1 vs, n1, [], [], [], SW, upd_same, rfl, rfl, xF.gr.trans gW, xF.kp, by simpa using q1⟩ (fun i Ha _ ⟨ρ', n', _, _, _, _, _, _, _, x, _⟩ => hG _ _ x) ?_ ?_
  · rintro i v Ha Hb hlt ⟨ρ', n', ks, acc, us, S', eD, eK, rA, gA, kA, cw⟩ y
    obtain ⟨kb, rv⟩ := hY i _ Ha v Hb ds[i] gA (fun a z => S'.there z) y (by simp [hlt])
    have Sb := S'.grow kb
    have gb : Gr (Own (And1 O0 D) (wipe σ vs) ρ') Ha (Own (And1 O0 D) (wipe σ vs) ρ') Hb := fun a o no e => ⟨no, kb a o e⟩
    rw [List.drop_eq_getElem_cons hlt] at cw
    refine hg (And1 O0 D) H0 (wipe σ vs) Hb ρ' n' ds[i] v _ _ Sb rv cw fun σ2 ρ2 n2 q2 S2 o2 x2 => ?_
    have hw2 := wipe_only o2 hs
    refine ⟨hw2, ht (And1 O0 D) H0 σ2 Hb ρ2 n2 _ _ S2 q2 fun b ρ3 n3 H3 q3 S3 x3 => ?_⟩
    have l2 : (wipe σ vs).length = σ2.length := by rw [← hw2, wipe_length]
    have hσ2 : ∀ j, j ∉ vs → (wipe σ vs)[j]? = σ2[j]? := fun j c => by rw [← hw2, wipe_out' c]
    have g23 := (gA.trans gb).trans (x2.gr.trans x3.gr)
    have k23 : ∀ a o, O0 a → ¬ p.dk a → H1 a = some o → H3 a = some o := fun a o z d e => x3.kp a o (.inl z) d (x2.kp a o (.inl z) d (kb a o (kA a o z d e)))
    have d3 : H3 D = some (.dK us) := x3.kp D _ (.inr rfl) nd (x2.kp D _ (.inr rfl) nd (kb D _ eD))
    have r3 := RpL.gr (gb.trans (x2.gr.trans x3.gr)) _ _ rA
    cases b with
    | false =>
      refine iteF ?_
      rw [if_neg Bool.false_ne_true] at q3
      obtain ⟨no3, cw3⟩ := q3
      have S4 := S3.wipe (vs := vs) (σ' := wipe σ vs) no3 l2 hσ2
      have g4 : Gr (Own (And1 O0 D) σ2 ρ3) H3 (Own (And1 O0 D) (wipe σ vs) (wipeS ρ3 vs)) H3 := fun a o no e => ⟨fun z => no ((own_wipe no3 hσ2).mp z), e⟩
      exact ⟨wipeS ρ3 vs, n3, ks, acc, us, S4, d3, eK, RpL.gr g4 _ _ r3, g23.trans g4, k23, cw3⟩
    | true =>
      refine iteT ?_
      rw [if_pos rfl] at q3
      refine hk (And1 O0 D) H0 σ2 H3 ρ3 n3 _ _ S3 q3 fun yk ρ4 n4 v4 H4 q4 S4 r4 x4 => ?_
      refine he (And1 O0 D) H0 σ2 H4 ρ4 n4 _ _ S4 q4 fun yv ρ5 n5 v5 H5 q5 S5 r5 x5 => ?_
      obtain ⟨kk, ek, nk, hl5, no5, cw5⟩ := q5
      have d5 : H5 D = some (.dK us) := x5.kp D _ (.inr rfl) nd (x4.kp D _ (.inr rfl) nd d3)
      have r5' := RpL.gr (x4.gr.trans x5.gr) _ _ r3
      have nv : valV us kk = none := by
        have key : ∀ {l : List (Key × V)}, kk ∉ l.map (·.1) → valV l kk = none := by
          intro l
          induction l with
          | nil => intro _; rfl
          | cons z l ih =>
            intro hz
            simp only [List.map_cons, List.mem_cons, not_or] at hz
            rw [valV_neg (p := z) (Ne.symm hz.1)]
            exact ih hz.2
        exact key (by rw [eK]; exact nk)
      have ul : us.length < sizeLine := Nat.lt_of_lt_of_le (by rw [← List.length_map (f := (·.1)), eK]; exact hl5) (le_line (Nat.le_refl _))
      refine ⟨us, kk, key_v r4 ek, d5, ul, ?_⟩
      rw [putK_new v5 nv]
      obtain ⟨S6, g6⟩ := S5.poke (q := D) (o := .dK (us ++ [(kk, v5)])) (.inr rfl) nd h0D
      have S7 := S6.wipe (vs := vs) (σ' := wipe σ vs) no5 l2 hσ2
      have g7 : Gr (Own (And1 O0 D) σ2 ρ5) (upd H5 D (.dK (us ++ [(kk, v5)]))) (Own (And1 O0 D) (wipe σ vs) (wipeS ρ5 vs)) (upd H5 D (.dK (us ++ [(kk, v5)]))) := fun a o no e => ⟨fun z => no ((own_wipe no5 hσ2).mp z), e⟩
      have neD : ∀ a, O0 a → a ≠ D := fun a z c => nO (c ▸ z)
      have g67 := g6.trans g7
      refine ⟨wipeS ρ5 vs, n5, ks ++ [kk], acc ++ [yv], us ++ [(kk, v5)], S7, upd_same, by simp [eK], ?_, (g23.trans (x4.gr.trans x5.gr)).trans g67,
        fun a o z d e => by rw [upd_ne (neD a z)]; exact x5.kp a o (.inl z) d (x4.kp a o (.inl z) d (k23 a o z d e)), cw5⟩
      rw [List.map_append]
      exact (RpL.gr g67 _ _ r5').append (.cons (Rp.gr g67 _ _ r5) rfl)
  · rintro Ha ⟨ρ', n', ks, acc, us, S', eD, eK, rA, gA, kA, cw⟩
    rw [List.drop_length] at cw
    obtain ⟨no', hl', q⟩ := cw
    obtain ⟨S7, key⟩ := S1.back (vs := vs) S' hno no' hσw gA hl'.symm
    have g7 : Gr (Own (And1 O0 D) (wipe σ vs) ρ') Ha (Own (And1 O0 D) σ (backS ρ1 ρ' vs)) Ha := fun a o no e => ⟨fun z => no ((key a).mp z), e⟩
    exact k (.dic ks acc) _ n' D Ha q S7 ⟨us, eD, eK, RpL.gr g7 _ _ rA⟩ h0D nO ⟨x1.gr.trans (gA.trans g7), fun a o z d e => kA a o z d (x1.kp a o z d e)⟩
theorem pdf_dc (own : List (Str × Nat)) (hc : X.calm = true) (hN : X.N.Nodup) (hi : PDI p X tg iter ti wi) (ok : blkC X.N X.env.scope scope own = true)
    (hg : ∀ (s : Shared) (H : Hp) (C : Addr) (cl : List (Str × Addr)) (fp : List Addr), PDG p (X.blk s H scope (compEnvC scope cl C X.env) fp) tg gs g wg) (ht : ∀ (s : Shared) (H : Hp) (C : Addr) (cl : List (Str × Addr)) (fp : List Addr), PDTs p (X.blk s H scope (compEnvC scope cl C X.env) fp) ifs tt wt)
    (hk : ∀ (s : Shared) (H : Hp) (C : Addr) (cl : List (Str × Addr)) (fp : List Addr), PD p (X.blk s H scope (compEnvC scope cl C X.env) fp) kx tk wk)
    (he : ∀ (s : Shared) (H : Hp) (C : Addr) (cl : List (Str × Addr)) (fp : List Addr), PD p (X.blk s H scope (compEnvC scope cl C X.env) fp) vx tv wv) (hgs : ∀ i ∈ gs, i ∈ own.map (·.2) := by decide) (hs : ∀ x, foldedSetIterable iter X.env x = pure x := by intro _; rfl) :
    PDF p X (.DictComp kx vx [⟨tg, iter, ifs, 0⟩] scope pos) (tDc ti g tt tk tv (own.map (·.2))) (wDc wi wg wt wk wv (own.map (·.2))) :=
  ⟨pe_dc hc hN hi.pi (blkOk_by ok) (fun s H C cl fp => (hg s H C cl fp).pg) (fun s H C cl fp => (ht s H C cl fp).pt) (fun s H C cl fp => (hk s H C cl fp).pe) (fun s H C cl fp => (he s H C cl fp).pe) hs,
    sim_dc hi.sim (hg {} (fun _ => none) 0 [] []).sim (ht {} (fun _ => none) 0 [] []).sim (hk {} (fun _ => none) 0 [] []).sim (he {} (fun _ => none) 0 [] []).sim hgs⟩
end

section
variable {p : Par} {X : Cx} {a b c : Expr} {ta tb tc : TE} {wa wb wc : WE} {pos apos cpos : Pos}
def wDGet (wa wb : WE) : WE := fun ρ n Q => wa ρ n fun d ρ1 n1 => wb ρ1 n1 fun y ρ2 n2 => match d with
  | .dic ks ds => ∃ k v, keyD y = some k ∧ findD k ks ds = some v ∧ Q v ρ2 n2
  | _ => False
theorem pd_dget (hu : X.A.units + 1 < cLine) (ha : PD p X a ta wa) (hb : PD p X b tb wb) (hs : NoSl b := by exact fun _ _ => rfl) : PD p X (.Subscript a b pos) (tDGet ta tb) (wDGet wa wb) := by
  refine ⟨pe_dget hu ha.pe hb.pe hs, fun O0 H0 σ H ρ n Q QV S hw kk => ?_⟩
  refine ha.sim O0 H0 σ H ρ n _ _ S hw fun d ρ1 n1 x H1 q1 S1 r1 x1 => ?_
  refine hb.sim O0 H0 σ H1 ρ1 n1 _ _ S1 q1 fun y ρ2 n2 z H2 q2 S2 r2 x2 => ?_
  split at q2
  · rename_i ks ds
    obtain ⟨k, v, ek, ef, q⟩ := q2
    obtain ⟨u, xs, rfl, m1, h1, en, rl⟩ := Rp.gr x2.gr _ _ r1
    have f := find_rp (k := k) en rl
    rw [ef] at f
    obtain ⟨vv, ev, rv⟩ := f
    refine ⟨u, vv, rfl, ?_, kk v ρ2 n2 vv H2 q S2 rv (x1.trans x2)⟩
    rw [key_v r2 ek, ← ev]
    exact DGet.k h1
  · exact q2.elim
def wDGet2 (wa wb wc : WE) : WE := fun ρ n Q => wa ρ n fun d ρ1 n1 => match d with
  | .dic ks ds => wb ρ1 n1 fun y ρ2 n2 => wc ρ2 n2 fun z ρ3 n3 => ∃ k, keyD y = some k ∧ Q ((findD k ks ds).getD z) ρ3 n3
  | _ => False
theorem pd_dget2 (hu : X.A.units + 1 < cLine) (ha : PD p X a ta wa) (hb : PD p X b tb wb) (hc : PD p X c tc wc) (m : M2 X a "get" apos b c cpos := by exact ⟨rfl, rfl, rfl, rfl⟩) :
    PD p X (.Call (.Attribute a "get" apos) [b, c] [] cpos) (tDGet2 ta tb tc) (wDGet2 wa wb wc) := by
  refine ⟨pe_dget2 hu ha.pe hb.pe hc.pe m, fun O0 H0 σ H ρ n Q QV S hw kk => ?_⟩
  refine ha.sim O0 H0 σ H ρ n _ _ S hw fun d ρ1 n1 x H1 q1 S1 r1 x1 => ?_
  split at q1
  · rename_i ks ds
    obtain ⟨u, xs, rfl, m1, h1, en, rl⟩ := id r1
    refine ⟨u, rfl, .inl ⟨xs, .inl h1⟩, ?_⟩
    refine hb.sim O0 H0 σ H1 ρ1 n1 _ _ S1 q1 fun y ρ2 n2 v2 H2 q2 S2 r2 x2 => ?_
    refine hc.sim O0 H0 σ H2 ρ2 n2 _ _ S2 q2 fun z ρ3 n3 v3 H3 q3 S3 r3 x3 => ?_
    obtain ⟨k, ek, q⟩ := q3
    have g23 := x2.gr.trans x3.gr
    have h3 := (g23 _ _ m1 h1).2
    have f := find_rp (k := k) en (RpL.gr g23 _ _ rl)
    refine ⟨valV xs k, by rw [key_v r2 ek]; exact DGet.k h3, ?_⟩
    cases e : findD k ks ds with
    | some d =>
      rw [e] at f q
      obtain ⟨vv, ev, rv⟩ := f
      rw [ev]
      exact kk _ ρ3 n3 vv H3 q S3 rv ((x1.trans x2).trans x3)
    | none =>
      rw [e] at f q
      have f : valV xs k = none := f
      rw [f]
      exact kk _ ρ3 n3 v3 H3 q S3 r3 ((x1.trans x2).trans x3)
  · exact q1.elim
end
end DL
end
section
namespace DL
open PySem L2

structure SubK (K : PySem.W.Frag) (C f : Addr) : Prop where
  at_ : PySem.W.findIn K (.ref C) "__getitem__" = some (some (.ref f))
  fn : PySem.W.isFn K (.ref f) = true
  fi : PySem.W.fnIn K f = true
structure Gsub (P : Program) (w : World) (K : PySem.W.Frag) (mg : Str → Option Value) (base : Heap) (p : Par) (C : Addr) (k : Nat) (wf : WF) : Prop where
  ex : ∃ (f : Addr) (fd : FuncData) (ps : List Str), FnOk P w K mg base CX0 k f fd ps (spW p 2 wf) ∧ SubK K C f ∧ Binds K fd ps []
def rSubO (p : Par) (C : Addr) (wf : WF) : R2 := fun x y H Q => ∃ a dx fs, x = .ref a ∧ H a = some (.ins C dx fs) ∧ spW p 2 wf [x, y] H Q E0
def wSubO (c : String) (wf : WF) (wa wb : WE) : WE := fun ρ n Q => wa ρ n fun d ρ1 n1 => wb ρ1 n1 fun k ρ2 n2 => match d with
  | .obj c' _ _ => c' = c ∧ wf [d, k] n2 fun r n3 => Q r ρ2 n3
  | _ => False
section
variable {p : Par} {X : Cx} {a b c e o : Expr} {es : List Expr} {ta tb tc te : TE} {wa wb wc we : WE} {t : TA} {w : WA} {pos p1 apos : Pos} {x : Str} {C : Addr} {k N : Nat} {wf : WF}
theorem pd_sub (c : String) (cp : ClsP p c C) (G : Gsub X.prog X.w X.K X.mg X.base p C k wf) (hr : Room (k + 1) X.A) (ha : PD p X a ta wa) (hb : PD p X b tb wb)
    (hsl : ∀ (x : Addr) (i : Value), subscripted b true (.ref x) i = runValue (.builtin "lifetime.subscript" ⟨[.ref x, i], []⟩) := by intro _ _; with_unfolding_all rfl) : PD p X (.Subscript a b pos) (tOp (rSubO p C wf) ta tb) (wSubO c wf wa wb) := by
  obtain ⟨f, fd, ps, F, M, bb⟩ := G.ex
  refine ⟨⟨fun pins s σ H Q I h => ?_⟩, fun O0 H0 σ H ρ n Q QV S hw kk => ?_⟩
  · refine PyProof.Rows.Subscript_ (thn (ha.pe.run pins s σ H _ I h) fun v s1 ⟨y, H1, I1, ry, q1⟩ => thn (hb.pe.run pins s1 σ H1 _ I1 q1) fun i s2 ⟨z, H2, I2, rz, q2⟩ => ?_)
    obtain ⟨q, dx, fs, rfl, ea, q2⟩ := q2
    obtain rfl : v = Value.ref q := ry
    obtain ⟨mA, O, _⟩ := ins_get I2.hok ea
    obtain ⟨od, J, _⟩ := O.look
    obtain ⟨m, Fm⟩ := I2.fr
    have F' := F.raw bb .nil
    refine PySem.W.sub_K Fm I2.ok.mod.kin J M.at_ M.fi M.fn ?_ (hsl q i)
    exact wpAny_call (SlX.run_at (us := [.ref q, i]) (ws := [.ref q, z]) F' hr.in1 I2.env0.in1 pass0 I2 (.cons rfl (.cons rz .nil)) q2)
  · refine ha.sim O0 H0 σ H ρ n _ _ S hw fun d ρ1 n1 x H1 q1 S1 r1 x1 => ?_
    refine hb.sim O0 H0 σ H1 ρ1 n1 _ _ S1 q1 fun y ρ2 n2 z H2 q2 S2 r2 x2 => ?_
    split at q2
    · obtain ⟨rfl, q⟩ := q2
      have r1' := Rp.gr x2.gr _ _ r1
      obtain ⟨u, C', dx, xs, rfl, m1, h1, hc', en, rl⟩ := id r1'
      rw [cp.at_] at hc'; cases hc'
      refine ⟨u, dx, xs, rfl, h1, ?_⟩
      exact call_asks (ds := [_, y]) S2 (.cons r1' (.cons r2 rfl)) rfl q fun d' n3 v H3 q' S' rv x3 => kk d' ρ2 n3 v H3 q' S' rv ((x1.trans x2).trans x3)
    · exact q2.elim

structure Gmk (P : Program) (w : World) (K : PySem.W.Frag) (mg : Str → Option Value) (base : Heap) (p : Par) (C : Addr) (m kn : Str) (k : Nat) (wf : WF) : Prop where
  ex : ∃ (f : Addr) (fd : FuncData) (ps : List Str), FnOk P w K mg base CX0 k f fd ps (spW p 2 wf) ∧ Meth K C m f ∧ ps.length = 2 ∧ ∀ a b : Value, bindArgs fd ⟨[a], [(kn, b)]⟩ = pure (ps.zip [a, b])
def wMethK (c m : String) (wf : WF) (wa wb : WE) : WE := fun ρ n Q => wa ρ n fun d ρ1 n1 => onO c m d (wb ρ1 n1 fun y ρ2 n2 => wf [d, y] n2 fun r n3 => Q r ρ2 n3)
def tMethK (p : Par) (C : Addr) (m : Str) (wf : WF) (ta tb : TE) : TE := fun σ H Q => ta σ H fun x H1 => ∃ a dx fs, x = .ref a ∧ H1 a = some (.ins C dx fs) ∧ fs.lookup m = none ∧ tb σ H1 fun y H2 => spW p 2 wf [x, y] H2 Q E0
theorem pd_methK {kn : Str} {kpos : Pos} {pl : Sem Bool} (c m : String) (cp : ClsP p c C) (hK : X.K = p.K) (G : Gmk X.prog X.w X.K X.mg X.base p C (Str.ofString m) kn k wf) (hr : Room k X.A) (ha : PD p X o ta wa) (hb : PD p X e tb wb)
    (hkw : (backToKw pos (keywordEach [⟨some kn, e, kpos⟩] X.env)) = [(some kn, do let v ← eval e X.env; standAt pos; pure v)] := by rfl)
    (hpl : ((backTo pos (starEach [] X.env)).any (·.1) || (backToKw pos (keywordEach [⟨some kn, e, kpos⟩] X.env)).any (·.1.isNone)) = false := by rfl)
    (he : eval (.Call (.Attribute o (Str.ofString m) apos) [] [⟨some kn, e, kpos⟩] pos) X.env = (do
      let ov ← eval o X.env
      standAt apos.atName
      let (f, first) ← holding [ov] (getMethod ov (Str.ofString m) pl)
      callWith pos f first (backTo pos (starEach [] X.env)) (backToKw pos (keywordEach [⟨some kn, e, kpos⟩] X.env))) := by rfl) :
    PD p X (.Call (.Attribute o (Str.ofString m) apos) [] [⟨some kn, e, kpos⟩] pos) (tMethK p C (Str.ofString m) wf ta tb) (wMethK c m wf wa wb) := by
  obtain ⟨f, fd, ps, F, M, hl, hbd⟩ := G.ex
  refine ⟨⟨fun pins s σ H Q I h => ?_⟩, fun O0 H0 σ H ρ n Q QV S hw kk => ?_⟩
  · refine PySem.W.methodCall_KW (pl := pl) (thn (ha.pe.run pins s σ H _ I h) fun u s1 ⟨x, H1, I1, rx, q, dx, fs, ex, ea, l, q1⟩ => ?_) he
    subst ex
    obtain rfl : u = Value.ref q := rx
    refine getmeth_ok I1 ea (by rw [hK]; exact cp.cl) M l ?_
    refine PySem.W.callWith_KW0 (first := [.ref q]) (h₀ := X.base) I1.ok.mod.kin M.kp (by rw [hkw]; rfl) ?_ hpl
    rw [hkw]
    refine wpAny_evalAll_cons (wpAny_bind (thn (hb.pe.run pins s1 σ H1 _ I1 q1) fun v s2 ⟨y, H2, I2, ry, q2⟩ => wpAny_bind (wpAny_standAt (wpAny_pure (wpAny_evalAll_nil ⟨I2.kIn, ?_⟩)))))
    refine wpAny_call (codeAny_mono (F.run X.A X.stack s2 H2 ⟨[.ref q], [(kn, v)]⟩ [.ref q, v] [.ref q, y] Q E0 hr I2.env0 (.of_eq (hbd _ _)) (.cons rfl (.cons ry .nil)) q2) fun r s' hq => ?_)
    cases r with
    | error e => exact pass0 pins σ H2 s2 e s' I2 hq
    | ok fl =>
      cases fl with
      | ret u => exact I2.after hq
      | next => exact False.elim hq
      | brk => exact False.elim hq
      | cont => exact False.elim hq
  · refine ha.sim O0 H0 σ H ρ n _ _ S hw fun d ρ1 n1 x H1 q1 S1 r1 x1 => ?_
    obtain ⟨ns, ds, rfl, hn, q⟩ := onO_get q1
    obtain ⟨u, C', dx, xs, rfl, m1, h1, hc, en, rl⟩ := id r1
    rw [cp.at_] at hc; cases hc
    refine ⟨u, dx, xs, rfl, h1, notin_str en hn, hb.sim O0 H0 σ H1 ρ1 n1 _ _ S1 q fun y ρ2 n2 z H2 q2 S2 r2 x2 => ?_⟩
    exact call_asks (ds := [_, y]) S2 (.cons (Rp.gr x2.gr _ _ r1) (.cons r2 rfl)) rfl q2 fun d' n3 v H3 q' S' rv x3 => kk d' ρ2 n3 v H3 q' S' rv ((x1.trans x2).trans x3)

def wSplit (wa wb : WE) : WE := fun ρ n Q => wa ρ n fun d ρ1 n1 => onS d fun a => wb ρ1 n1 fun y ρ2 n2 => onS y fun b => (b.length == 0) = false ∧ a.length ≤ 99998 ∧ Q (.lst ((Txt.split a b).map D.str)) ρ2 n2
theorem pd_split (ha : PD p X a ta wa) (hb : PD p X b tb wb) (hs : starEach [b] X.env = [(false, eval b X.env)] := by rfl) (hbase : attributeBase a "split" X.env (eval a X.env) = eval a X.env := by rfl) (hline : (apos.endLine == pos.line) = true := by rfl) :
    PD p X (.Call (.Attribute a "split" apos) [b] [] pos) (tM1 (fun x xs H Q => ∃ a b, x = .str a ∧ xs = [.str b] ∧ (b.length == 0) = false ∧ a.length + 2 ≤ sizeLine ∧ rNewStrs (Txt.split a b) H Q) ta tb) (wSplit wa wb) := by
  refine ⟨pe_split ha.pe hb.pe hs hbase hline, fun O0 H0 σ H ρ n Q QV S hw kk => ?_⟩
  refine ha.sim O0 H0 σ H ρ n _ _ S hw fun d ρ1 n1 x H1 q1 S1 r1 x1 => ?_
  obtain ⟨z, rfl, q1⟩ := onS_get q1
  refine ⟨⟨z, r1⟩, hb.sim O0 H0 σ H1 ρ1 n1 _ _ S1 q1 fun y ρ2 n2 v H2 q2 S2 r2 x2 => ?_⟩
  obtain ⟨u, rfl, h1, h2, q⟩ := onS_get q2
  refine ⟨z, u, r1, by rw [show v = V.str u from r2], h1, le_line (by omega), fun q' hq => ?_⟩
  exact kk _ ρ2 n2 _ _ q (S2.alloc hq) ⟨q', _, rfl, S2.notOwn hq, upd_same, RpL.ofS _⟩ ((x1.trans x2).trans (S2.extA hq))
def wJoin (wa wb : WE) : WE := fun ρ n Q => wa ρ n fun d ρ1 n1 => onS d fun a => wb ρ1 n1 fun y ρ2 n2 => ∃ (ds : List D) (ys : List Str), seqD y = some ds ∧ ds.map strD = ys.map some ∧ (ys.map (·.length)).sum + ys.length * a.length ≤ 16777216 ∧ Q (.str (Txt.join a ys)) ρ2 n2
theorem pd_join (hK : X.K = p.K) (ha : PD p X a ta wa) (hb : PD p X b tb wb) (hs : starEach [b] X.env = [(false, eval b X.env)] := by rfl) (hbase : attributeBase a "join" X.env (eval a X.env) = eval a X.env := by rfl) (hline : (apos.endLine == pos.line) = true := by rfl) :
    PD p X (.Call (.Attribute a "join" apos) [b] [] pos) (tM1 (fun x xs H Q => ∃ a q, ∃ ys : List Str, x = .str a ∧ xs = [.ref q] ∧ (SqL p.K H q (ys.map V.str) ∨ SqT p.K H q (ys.map V.str)) ∧
      (ys.map (·.length)).sum + ys.length * a.length ≤ 16777216 ∧ Q (.str (Txt.join a ys)) H) ta tb) (wJoin wa wb) := by
  refine ⟨by rw [← hK]; exact pe_join ha.pe hb.pe hs hbase hline, fun O0 H0 σ H ρ n Q QV S hw kk => ?_⟩
  refine ha.sim O0 H0 σ H ρ n _ _ S hw fun d ρ1 n1 x H1 q1 S1 r1 x1 => ?_
  obtain ⟨z, rfl, q1⟩ := onS_get q1
  refine ⟨⟨z, r1⟩, hb.sim O0 H0 σ H1 ρ1 n1 _ _ S1 q1 fun y ρ2 n2 v H2 q2 S2 r2 x2 => ?_⟩
  obtain ⟨ds, ys, e1, e2, hz, q⟩ := q2
  obtain ⟨u, vs, rfl, hs, rl⟩ := seq_sq r2 e1
  rw [strD_map e2] at rl
  have e3 := RpL.mapS rl
  subst e3
  exact ⟨z, u, ys, r1, rfl, hs, hz, kk _ ρ2 n2 _ H2 q S2 rfl (x1.trans x2)⟩
end

section
variable {p : Par} {X : Cx} {a b : Expr} {ta tb : TE} {wa wb : WE} {pos : Pos} {x : Str}
theorem pds_parFF (i j : Nat) {y : Str} {px py pt : Pos} {kt k2 pt2} (hc : X.calm = true) (hN : X.N.Nodup) (ha : PDF p X a ta wa) (hb : PDF p X b tb wb)
    (hi : X.N[i]? = some x := by rfl) (hj : X.N[j]? = some y := by rfl) (hij : i ≠ j := by decide) (hx : X.env.scope.names.lookup x = some .local := by rfl) (hy : X.env.scope.names.lookup y = some .local := by rfl)
    (hw : swappedStores [.Tuple [.Name x px, .Name y py] kt pt] (.Tuple [a, b] k2 pt2) X.env = pure (some [x, y]) := by rfl) (hs : swapsWithSole [.Tuple [.Name x px, .Name y py] kt pt] (.Tuple [a, b] k2 pt2) pos.line X.env = pure false := by rfl)
    (h1 : starEach [a, b] X.env = (false, eval a X.env) :: starEach [b] X.env := by rfl) (h2 : starEach [b] X.env = (false, eval b X.env) :: starEach [] X.env := by rfl) :
    PDS p X (.Assign [.Tuple [.Name x px, .Name y py] kt pt] (.Tuple [a, b] k2 pt2) pos) [i, j] (tPar i j (tCons ta (tCons tb tNil))) (wParFF i j wa wb) := by
  refine ⟨ps_par hc hN hi hj hij hx hy (pa_cons ha.pe (pa_cons hb.pe pa_nil h2) h1) hw hs, fun O0 H0 σ H ρ n q E S hw r => ?_⟩
  refine ha.sim O0 H0 σ H ρ n _ _ S hw fun d ρ1 n1 u H1 q1 S1 w1 h01 n01 x1 => ?_
  refine hb.sim (And1 O0 u) H0 σ H1 ρ1 n1 _ _ S1 q1 fun d' ρ2 n2 v H2 q2 S2 w2 h02 n02 x2 => ?_
  obtain ⟨g1, g2, q2⟩ := q2
  have hdk : ∀ c, p.dk c → (And1 O0 u) c := fun c z => .inl (S.dk c z)
  have nd : ¬ p.dk u := fun z => n01 (S.dk u z)
  refine ⟨_, _, rfl, ?_⟩
  have w1' : OwnAt p (Own (And1 (And1 O0 u) v) σ ρ2) H2 u d := w1.gr x2.gr fun o e => x2.kp u o (.inr rfl) nd e
  have S3 := S2.setO (i := j) w2 h02 n02 hdk g2
  have sub3 : ∀ c, Own (And1 O0 u) (σ.set j (some (.ref v))) (ρ2.set j (.own d')) c → Own (And1 (And1 O0 u) v) σ ρ2 c := fun c z => by
    rcases z with z | ⟨l, e, e1, e2⟩
    · exact .inl (.inl z)
    · by_cases hl : j = l
      · subst hl
        rw [List.getElem?_set_self (by rw [S2.len]; exact g2)] at e2
        cases e2
        exact .inl (.inr rfl)
      · rw [List.getElem?_set_ne hl] at e1 e2
        exact .inr ⟨l, e, e1, e2⟩
  have gr3 : Gr (Own (And1 (And1 O0 u) v) σ ρ2) H2 (Own (And1 O0 u) (σ.set j (some (.ref v))) (ρ2.set j (.own d'))) H2 := fun c o no e => ⟨fun z => no (sub3 c z), e⟩
  have S4 := S3.setO (i := i) (w1'.gr gr3 fun _ e => e) h01 n01 S.dk (by simpa using g1)
  have sub4 : ∀ c, Own O0 ((σ.set j (some (.ref v))).set i (some (.ref u))) ((ρ2.set j (.own d')).set i (.own d)) c → Own (And1 O0 u) (σ.set j (some (.ref v))) (ρ2.set j (.own d')) c := fun c z => by
    rcases z with z | ⟨l, e, e1, e2⟩
    · exact .inl (.inl z)
    · by_cases hl : i = l
      · subst hl
        rw [List.getElem?_set_self (by rw [List.length_set, S2.len]; exact g1)] at e2
        cases e2
        exact .inl (.inr rfl)
      · rw [List.getElem?_set_ne hl] at e1 e2
        exact .inr ⟨l, e, e1, e2⟩
  have gr4 : Gr (Own (And1 O0 u) (σ.set j (some (.ref v))) (ρ2.set j (.own d'))) H2 (Own O0 ((σ.set j (some (.ref v))).set i (some (.ref u))) ((ρ2.set j (.own d')).set i (.own d))) H2 := fun c o no e => ⟨fun z => no (sub4 c z), e⟩
  have x12 : Ext p O0 (Own O0 σ ρ) H (Own O0 ((σ.set j (some (.ref v))).set i (some (.ref u))) ((ρ2.set j (.own d')).set i (.own d))) H2 := ⟨(x1.gr.trans x2.gr).trans (gr3.trans gr4), fun c o z dd e => x2.kp c o (.inl z) dd (x1.kp c o z dd e)⟩
  rw [List.set_comm _ _ (Ne.symm hij), List.set_comm _ _ (Ne.symm hij)] at S4
  rw [List.set_comm _ _ (Ne.symm hij), List.set_comm _ _ (Ne.symm hij)] at x12
  exact r.nx _ H2 _ n2 q2 S4 x12 only_set2
end
end DL
end
section
namespace DL
open PySem L2
open PyProof.Rows (envOfC)

/-- what repr may be asked of -/
structure ShowOk (x : PyData) : Prop where
  sh : x.showable = true
  nd : x.hasDict = false
  len : x.shown.length ≤ 100000
  dp : x.depth ≤ 30
def rRepr (K : PySem.W.Frag) : List V → Hp → VK → Prop := fun vs H Q => ∃ v x, vs = [v] ∧ Dp K H v x ∧ ShowOk x ∧ Q (.str x.shown) H
section
variable {X : Cx}
theorem cr_repr (hu : X.A.units + 64 < cLine) (hg : X.A.guards = some []) : CallR X (.builtin "repr") (rRepr X.K) := by
  intro pins s σ H vs us Q I r h
  obtain ⟨v, x, rfl, hd, ok, q⟩ := h
  obtain ⟨u, rfl, ru⟩ := vals1 r
  obtain ⟨as, rd⟩ := Dp.reads I x v u hd ru
  have fin : ∀ h' t tk, (∀ b o, s.heap.get? b = some o → h'.get? b = some o) → EP X pins σ Q (.str x.shown t) { s with heap := h', toks := tk } := fun h' t tk kp => ⟨.str x.shown, H, I.kept (t' := tk) kp, ⟨t, rfl⟩, q⟩

  cases u with
  | ref a =>
    refine repr_of_reads' rd ok.sh (PyData.noDict_hsm ok.nd) hg (by have := ok.dp; omega) (fun b o e => e) (fun h' t tk kp => fin h' t tk kp) (Nat.le_trans ok.len (by decide))
  | none => cases rd; exact PySem.P.repr_of_none (fin _ _ _ fun b o e => e)
  | bool b => cases rd; exact PySem.P.repr_of_bool (fin _ _ _ fun b o e => e)
  | int i t => cases rd; exact PySem.P.repr_of_int (by simpa [PyData.showable] using ok.sh) (fin _ _ _ fun b o e => e)
  | str z t => cases rd; exact PySem.P.repr_of_str (hsz := Nat.le_trans ok.len (by decide)) (fin _ _ _ fun b o e => e)
  | _ => cases rd
end
section
variable {p : Par} {X : Cx} {e : Expr} {es : List Expr} {t : TA} {w : WA} {pos p1 : Pos}
def wRepr (w : WA) : WE := fun ρ n Q => w ρ n fun as ρ1 n1 => match as with
  | [d] => ∃ x, toP d = some x ∧ ShowOk x ∧ Q (.str x.shown) ρ1 n1
  | _ => False
theorem pd_repr (hK : X.K = p.K) (hm : X.mg "repr" = none) (hr : X.A.units + 64 < cLine) (hgd : X.A.guards = some []) (ha : PDA p X (e :: es) t w) (hg : Gl X "repr" := by rfl) (he : starEach (e :: es) X.env = (false, eval e X.env) :: starEach es X.env := by rfl) (hpl : (backTo pos (starEach es X.env)).any (·.1) = false := by rfl) :
    PD p X (.Call (.Name "repr" p1) (e :: es) [] pos) (tCB (rRepr p.K) t) (wRepr w) := by
  refine ⟨by rw [← hK]; exact pe_callB (cr_repr hr hgd) hg hm (by decide +kernel) ha.pa (by decide) (by decide) he hpl, fun O0 H0 σ H ρ n Q QV S hw k => ?_⟩
  refine ha.sim O0 H0 σ H ρ n _ _ S hw fun as ρ1 n1 vs H1 q1 S1 r1 x1 => ?_
  split at q1
  · obtain ⟨x, ex, ok, q⟩ := q1
    obtain ⟨v, rfl, rv⟩ := rpl1 r1
    exact ⟨v, x, rfl, toP_dp _ v x rv ex, ok, k _ ρ1 n1 _ H1 q S1 rfl x1⟩
  · exact q1.elim
end

structure FnG (P : Program) (w : World) (K : PySem.W.Frag) (mg : Str → Option Value) (base : Heap) (k : Nat) (f : Addr) (fd : FuncData) (ps : List Str) (sp : Sp) : Prop where
  many : ∀ vs H Q E, sp vs H Q E → vs.length = ps.length
  go : ∀ (A : Around) (outer : List PySem.Env) (s : Shared) (H : Hp) (args : Args) (us : List Value) (vs : List V) (Q : VK) (E : XK), A.guards = some [] → Room k A → Env0 P w K mg base A outer s H → BindsTo s fd args (ps.zip us) → L2.Vals vs us → sp vs H Q E →
    codeAny (model P w) A (.call (.ref f) args) (CR CX0 outer P w H s Q E) s
section
variable {P : Program} {w : World} {K : PySem.W.Frag} {mg : Str → Option Value} {base : Heap} {p : Par}
theorem fnG_of {x qual : Str} {st : Stmt} {f : Addr} {fd : FuncData} {Ns ps : List Str} {k : Nat} {sp : Sp} (F : Fun K x qual st f fd) (S : FnScope Ns ps (defScope st)) (len : ∀ vs H Q E, sp vs H Q E → vs.length = ps.length)
    (body : ∀ (cdv : Value) (A : Around) (outer : List PySem.Env) (s : Shared) (H : Hp) (vs : List V) (Q : VK) (E : XK), (A.deeper (envOfC qual (defScope st) s.heap.objs.size f cdv)).guards = some [] → Room k (A.deeper (envOfC qual (defScope st) s.heap.objs.size f cdv)) → sp vs H Q E →
      ∃ t, PSs (cxOf CX0 P w K mg base Ns qual (defScope st) f cdv A outer s H E).nox (defBody st) t ∧ t { nx := fun _ H' => Q .non H', rt := Q } (L2.start Ns vs) H) : FnG P w K mg base (k + 1) f fd ps sp := by
  obtain ⟨oc, od, kV, doc, pm, an, cdv, ct, osl, rfl, lk, hcd⟩ := F.ex
  constructor
  · exact len
  intro A outer s H args us vs Q E gd room e0 hb r hsp
  have kin : K.In s.heap := e0.mod.kin.keeps fun b o e => (e0.bs b o e).1
  have kinds : ∀ y ∈ ps.zip us, (defScope st).names.lookup y.1 = some .local ∨ ((defScope st).names.lookup y.1 = some .cell ∧ ((cellsFrom (s.heap.objs.size + 1) (defScope st).names []).lookup y.1).isSome = true) := by
    intro y hy
    rcases S.par y.1 (List.of_mem_zip hy).1 with q | q
    · exact Or.inl q
    · exact Or.inr ⟨q, PySem.W.cellsFrom_some _ _ _ (Or.inl q)⟩
  refine codeAny_call_function room.depth (kin _ _ lk) rfl S.co S.gen rfl (PySem.W.codeRec_of kin hcd) (hb _ _ _ _ ?_)
  refine wpAny_newFunctionEnv_cells S.kind kinds fun env he s1 c => ?_
  subst he
  refine ⟨(e0.mod.nolimit.keeps fun b o e => (e0.bs b o e).1).keeps c.toInCall.keep, codeAny_func ?_⟩
  obtain ⟨t, hp, hq⟩ := body cdv A outer s H vs Q E (by simpa [Around.deeper] using gd) (room.deeper _) hsp
  refine wpAny_mono (hp.nox.run [] s1 _ H _ (inv_start S room.hd e0 (len _ _ _ _ hsp) r c) hq) ?_ fun e s' hs => hs
  intro fl s' hs
  cases fl with
  | ret u =>
    obtain ⟨v, σ', H', J, rv, q⟩ := hs
    exact ⟨v, H', J.os, J.bare, J.base, J.hok, rv, q⟩
  | next =>
    obtain ⟨σ', H', J, q⟩ := hs
    exact ⟨V.non, H', J.os, J.bare, J.base, J.hok, rfl, q⟩
  | brk => exact hs.elim fun _ z => z.elim fun _ y => y.2.elim
  | cont => exact hs.elim fun _ z => z.elim fun _ y => y.2.elim
theorem fnGD {x qual : Str} {st : Stmt} {f : Addr} {fd : FuncData} {Ns ps : List Str} {k : Nat} {wf : WF} (N : Nat) (F : Fun K x qual st f fd) (S : FnScope Ns ps (defScope st)) (hN : N = ps.length)
    (hb : ∀ (cdv : Value) (A : Around) (outer : List PySem.Env) (s : Shared) (H : Hp) (E : XK), (A.deeper (envOfC qual (defScope st) s.heap.objs.size f cdv)).guards = some [] → Room k (A.deeper (envOfC qual (defScope st) s.heap.objs.size f cdv)) →
      ∃ gs t W, PDB p (cxOf CX0 P w K mg base Ns qual (defScope st) f cdv A outer s H E).nox (defBody st) gs t W ∧ ∀ ds n q, ds.length = N → wf ds n q → W { nx := fun _ n => q .non n, rt := q } (slots0 ds (Ns.length - N)) n) :
    FnG P w K mg base (k + 1) f fd ps (spW p N wf) := by
  refine fnG_of F S (fun vs H Q E h => ?_) fun cdv A outer s H vs Q E gd hr h => bodyD S hN (hb cdv A outer s H E gd hr) h
  obtain ⟨O0, ds, n, q, _, _, _, r, hl, _⟩ := h
  rw [← r.length, hl, hN]
end
structure Gg (P : Program) (w : World) (K : PySem.W.Frag) (mg : Str → Option Value) (base : Heap) (p : Par) (x : Str) (k N : Nat) (wf : WF) : Prop where
  ex : ∃ (f : Addr) (fd : FuncData) (ps : List Str), FnG P w K mg base k f fd ps (spW p N wf) ∧ mg x = some (.ref f) ∧ PySem.W.keepIn K (.ref f) = true ∧ Binds K fd ps []
section
variable {p : Par} {X : Cx} {e : Expr} {es : List Expr} {t : TA} {w : WA} {pos p1 : Pos} {x : Str} {k N : Nat} {wf : WF}
theorem pd_gg (G : Gg X.prog X.w X.K X.mg X.base p x k N wf) (hr : Room k X.A) (gd : X.A.guards = some []) (ha : PDA p X (e :: es) t w) (hg : Gl X x := by rfl) (hdb : (x == ("__debug__" : Str)) = false := by decide)
    (he : starEach (e :: es) X.env = (false, eval e X.env) :: starEach es X.env := by rfl) (hpl : (backTo pos (starEach es X.env)).any (·.1) = false := by rfl) :
    PD p X (.Call (.Name x p1) (e :: es) [] pos) (tCall (spW p N wf) [] E0 t) (wCallF (wLen N wf) [] w) := by
  obtain ⟨f, fd, ps, F, hm, hk, hb⟩ := G.ex
  refine ⟨⟨fun pins s σ H Q I h => ?_⟩, fun O0 H0 σ H ρ n Q QV S hw kk => ?_⟩
  · refine wpAny_Call_Name_kw (ld_glob I hg hm ?_ hdb)
    refine PySem.W.callWith_K (h₀ := X.base) I.ok.mod.kin hk (thn (ha.pa.run pos pins s σ H _ I h) fun us s1 ⟨vs, H1, I1, r, q⟩ => ⟨I1.kIn, ?_⟩) he hpl
    have q : spW p N wf (vs ++ []) H1 Q E0 := q
    rw [List.append_nil] at q
    have hl : us.length = ps.length := by rw [← r.length]; exact F.many _ _ _ _ q
    have b := hb s1 us I1.kIn (by rw [List.append_nil]; exact hl)
    rw [List.append_nil] at b
    refine wpAny_call (codeAny_mono (F.go X.A X.stack s1 H1 ⟨us, []⟩ us vs Q E0 gd hr I1.env0 b r q) fun r s' hq => ?_)
    cases r with
    | error e => exact hq.elim
    | ok fl =>
      cases fl with
      | ret u => exact I1.after hq
      | next => exact False.elim hq
      | brk => exact False.elim hq
      | cont => exact False.elim hq
  · refine ha.sim O0 H0 σ H ρ n _ _ S hw fun ds ρ1 n1 vs H1 q1 S1 r1 x1 => ?_
    rw [List.append_nil] at q1
    refine call_asks S1 ?_ q1.1 q1.2 fun d n2 v H' q S' rv x2 => kk d ρ1 n2 v H' q S' rv (x1.trans x2)
    rw [List.append_nil]
    exact r1
end
end DL
end
section
namespace DL
open PySem L2
open PyProof.Rows (envOfC)
section
variable {P : Program} {w : World} {K : PySem.W.Frag} {mg : Str → Option Value} {base : Heap} {p : Par}
theorem bodyI {qual : Str} {st : Stmt} {f C : Addr} {Ns ps : List Str} {wi : WI0} {N : Nat} {cdv : Value} {A : Around} {outer : List PySem.Env} {s : Shared} {H : Hp} {vs : List V} {Q : VK} {E : XK} (c : String) (cp : ClsP p c C) (S : FnScope Ns ps (defScope st)) (hN : N + 1 = ps.length)
    (hb : ∃ gs t W, PDB p (cxOf CX0 P w K mg base Ns qual (defScope st) f cdv A outer s H E).nox (defBody st) gs t W ∧ 0 ∉ gs ∧ ∀ ds n q, ds.length = N → wi ds n q → W { nx := fun ρ n => ∃ d, (ρ[0]? = some (.val d) ∨ ρ[0]? = some (.own d)) ∧ q d n, rt := fun _ _ => False } (.own (.obj c [] []) :: slots0 ds (Ns.length - (N + 1))) n)
    (h : spI p N C wi vs H Q E) : ∃ t, PSs (cxOf CX0 P w K mg base Ns qual (defScope st) f cdv A outer s H E).nox (defBody st) t ∧ t { nx := fun _ H' => Q .non H', rt := Q } (L2.start Ns vs) H := by
  obtain ⟨gs, t, W, pb, h0, hW⟩ := hb
  obtain ⟨O0, a, dx, ds, us, n, q, rfl, ha, na, th, hdk, at', r, hl, hw, fin⟩ := h
  have hNs : N + 1 ≤ Ns.length := by
    have := congrArg List.length S.pre
    rw [List.length_take] at this
    omega
  let H1 : Hp := fun b => if b = a then none else H b
  have h1 : ∀ b o, H1 b = some o → H b = some o ∧ b ≠ a := fun b o e => by
    by_cases c : b = a
    · rw [show H1 b = none from if_pos c] at e; cases e
    · rw [show H1 b = H b from if_neg c] at e; exact ⟨e, c⟩
  have eS : L2.start Ns (.ref a :: us) = some (.ref a) :: (us.map some ++ List.replicate (Ns.length - (us.length + 1)) none) := rfl
  have own : ∀ b, Own O0 (L2.start Ns (.ref a :: us)) (.own (.obj c [] []) :: slots0 ds (Ns.length - (N + 1))) b → And1 O0 a b := fun b z => by
    rcases z with z | ⟨i, d, e1, e2⟩
    · exact .inl z
    · cases i with
      | zero => rw [eS] at e2; cases e2; exact .inr rfl
      | succ i => exact absurd (by simpa using e1) (slots_own (ds := ds) (k := Ns.length - (N + 1)) (i := i) (d := d))
  have g : Gr (And1 O0 a) H (Own O0 (L2.start Ns (.ref a :: us)) (.own (.obj c [] []) :: slots0 ds (Ns.length - (N + 1)))) H := fun b o no e => ⟨fun z => no (own b z), e⟩
  have S0 : StR p O0 H1 (L2.start Ns (.ref a :: us)) H (.own (.obj c [] []) :: slots0 ds (Ns.length - (N + 1))) n := by
    refine ⟨?_, fun i d e => ?_, fun i d e => ?_, fun i j d e b h1 h2 _ _ => ?_, fun b o _ e => (h1 b o e).1, th, hdk, at'⟩
    · have := r.length
      unfold L2.start slots0
      simp
      omega
    · cases i with
      | zero => cases e
      | succ i =>
        obtain ⟨v, e1, rv⟩ := r.get (slots_val (by simpa using e))
        exact ⟨v, start_get (vs := .ref a :: us) (i := i + 1) (by simpa using e1), Rp.gr g d v rv⟩
    · cases i with
      | zero =>
        cases e
        exact ⟨a, by rw [eS]; rfl, ⟨C, dx, [], ha, cp.at_, rfl, rfl⟩, na, if_pos rfl⟩
      | succ i => exact absurd (by simpa using e) (slots_own (ds := ds) (k := Ns.length - (N + 1)) (i := i) (d := d))
    · cases i with
      | zero => cases j with
        | zero => rfl
        | succ j => exact absurd (by simpa using h2) (slots_own (ds := ds) (k := Ns.length - (N + 1)) (i := j) (d := e))
      | succ i => exact absurd (by simpa using h1) (slots_own (ds := ds) (k := Ns.length - (N + 1)) (i := i) (d := d))
  refine ⟨t, pb.ps, pb.sim O0 H1 _ H _ n _ _ S0 (hW ds n q hl hw) ⟨fun σ' H' ρ' n' z s' _ o => ?_, fun _ _ _ _ z => z.elim, fun _ _ _ _ z => z.elim, fun _ _ _ _ z => z.elim⟩⟩
  obtain ⟨d, hd, qd⟩ := z
  have e0 : σ'[0]? = some (some (.ref a)) := by rw [o.2 0 h0, eS]; rfl
  have kp : ∀ b o, b ≠ a → ¬ p.dk b → H b = some o → H' b = some o := fun b o ne nd e => s'.keep b o nd (by rw [show H1 b = H b from if_neg ne]; exact e)
  rcases hd with hd | hd
  · obtain ⟨v, e1, rv⟩ := s'.val 0 d hd
    rw [e0] at e1; cases e1
    exact fin d n' H' qd kp s'.at_ (Rp.gr (gr_own fun b o _ z => .inl z) _ _ rv)
  · obtain ⟨b, e1, S2, rv, _⟩ := s'.letgo hd
    rw [e0] at e1; cases e1
    exact fin d n' H' qd kp s'.at_ (Rp.gr (gr_own fun b o _ z => .inl z) _ _ rv)

/-- a def as it stands behind the top, its defaults in dV -/
structure FunA (K : PySem.W.Frag) (x qual : Str) (st : Stmt) (f : Addr) (fd : FuncData) (dV : Value) : Prop where
  ex : ∃ (oc : Value) (od : Option Addr) (kV doc pm : Value) (an : Option Addr) (cdv ct : Value) (osl : Array (Option Value)),
    fd = PySem.W.fnOf x qual (defArgs st) (defBody st) (defScope st) dV kV doc pm an cdv ct ∧ K.lookup f = some ⟨oc, od, .func fd, osl⟩ ∧ PySem.W.codeIn K cdv qual = true
theorem fnIA {x qual : Str} {st : Stmt} {f C : Addr} {fd : FuncData} {Ns ps : List Str} {k : Nat} {wi : WI0} {dV : Value} (N : Nat) (c : String) (cp : ClsP p c C) (F : FunA K x qual st f fd dV) (S : FnScope Ns ps (defScope st)) (hN : N + 1 = ps.length)
    (hb : ∀ (cdv : Value) (A : Around) (outer : List PySem.Env) (s : Shared) (H : Hp) (E : XK), Room k (A.deeper (envOfC qual (defScope st) s.heap.objs.size f cdv)) →
      ∃ gs t W, PDB p (cxOf CX0 P w K mg base Ns qual (defScope st) f cdv A outer s H E).nox (defBody st) gs t W ∧ 0 ∉ gs ∧ ∀ ds n q, ds.length = N → wi ds n q → W { nx := fun ρ n => ∃ d, (ρ[0]? = some (.val d) ∨ ρ[0]? = some (.own d)) ∧ q d n, rt := fun _ _ => False } (.own (.obj c [] []) :: slots0 ds (Ns.length - (N + 1))) n) :
    FnOk P w K mg base CX0 (k + 1) f fd ps (spI p N C wi) := by
  obtain ⟨oc, od, kV, doc, pm, an, cdv, ct, osl, rfl, lk, hcd⟩ := F.ex
  refine fn_of lk hcd S (fun vs H Q E h => ?_) fun A outer s H vs Q E hr h => ?_
  · obtain ⟨O0, a, dx, ds, us, n, q, rfl, _, _, _, _, _, r, hl, _⟩ := h
    rw [List.length_cons, ← r.length, hl, hN]
  · obtain ⟨t, h1, h2⟩ := bodyI c cp S hN (hb cdv A outer s H E hr) h
    exact ⟨t, h1.nox, h2⟩
theorem fnIS {x qual pv : Str} {st : Stmt} {f C : Addr} {fd : FuncData} {Ns ps : List Str} {k : Nat} {wi : WI0} (m : Nat) (c : String) (cp : ClsP p c C) (F : Fun K x qual st f fd) (S : FnScope Ns (ps ++ [pv]) (defScope st)) (hm : m + 1 = ps.length)
    (hbd : ∀ (kV doc pm : Value) (an : Option Addr) (cdv ct : Value) (us rest : List Value), us.length = ps.length → bindArgs (PySem.W.fnOf x qual (defArgs st) (defBody st) (defScope st) .none kV doc pm an cdv ct) ⟨us ++ rest, []⟩ = (newTuple rest >>= fun t => pure (ps.zip us ++ [(pv, t)])))
    (hb : ∀ (cdv : Value) (A : Around) (outer : List PySem.Env) (s : Shared) (H : Hp) (E : XK), Room k (A.deeper (envOfC qual (defScope st) s.heap.objs.size f cdv)) →
      ∃ gs t W, PDB p (cxOf CX0 P w K mg base Ns qual (defScope st) f cdv A outer s H E).nox (defBody st) gs t W ∧ 0 ∉ gs ∧ ∀ ds n q, ds.length = m + 1 → wi ds n q → W { nx := fun ρ n => ∃ d, (ρ[0]? = some (.val d) ∨ ρ[0]? = some (.own d)) ∧ q d n, rt := fun _ _ => False } (.own (.obj c [] []) :: slots0 ds (Ns.length - (m + 2))) n) :
    FnR P w K mg base CX0 (k + 1) f (spS (m + 1) (spI p (m + 1) C wi)) :=
  fnSI c cp hm F S hbd fun {cdv A outer s H vs Q E} hr h => bodyI c cp S (by simp [hm]) (hb cdv A outer s H E hr) h
end
/-- two texts -/
def gNeS : D → D → Option D
  | .str s, .str t => some (.bl (!decide (s = t)))
  | _, _ => none
theorem op2_neS {p : Par} : Op2 p rNe gNeS := by
  intro O0 H0 σ H ρ n x y a b d QV S ra rb hg k
  unfold gNeS at hg
  split at hg
  · rename_i s t
    cases hg
    rw [show x = V.str s from ra, show y = V.str t from rb]
    refine ⟨rfl, ?_⟩
    have e : decide (V.str s = V.str t) = decide (s = t) := by
      rw [Bool.eq_iff_iff]
      simp
    rw [e]
    exact k _ H S rfl Ext.refl
  · cases hg
end DL
end
section
namespace DL
open PySem PySem.Spec PyProof.Rows L2
open PyProof.Rows (envOfC)
abbrev LawEnd (s1 : Shared) : Result → Shared → Prop := fun r z => r = .ok (.ret (.bool true)) ∧ OldK s1.heap z.heap ∧ z.os = s1.os ∧ AllBare z.gens
section
variable {P : Program} {w : World} {K : PySem.W.Frag} {mg mb : Str → Option Value} {k : Nat} {fa a : Addr} {fd : FuncData} {x : Str} {sp : Sp} {s1 : Shared} {vs : List Value} {ns : List Int}
/-- from a heap that tracks the script at most -/
theorem lawG_at {T : Hp} (kin : K.In s1.heap) (hns : s1.heap.Ns mainGlobals mg) (hb : s1.heap.Ns builtinsNs mb) (hbb : ∀ y : Str, y ≠ "__name__" → mb y = bootBuiltins y) (nolim : s1.heap.NoLimit) (hg : s1.gens = #[])
    (ha : s1.heap.get? a = some { cls := .type "list", data := .seq vs.toArray }) (room : Room k callerA) (gd : callerA.guards = some [])
    (F : ∀ base : Heap, K.In base → base.Ns mainGlobals mg → FnG P w K mg base k fa fd [x] sp) (bind : ∀ (s : Shared) (u : Value), BindsTo s fd ⟨[u], []⟩ [(x, u)])
    (hq : sp [.ref a] T (fun v _ => v = .bl true) E0) (tOnly : L2.Only T) (tOk : HOk P w T s1.heap) (tA : ∀ b, T b ≠ none → b = a) (tK : T a ≠ none → K.lookup a = none) :
    codeAny (model P w) callerA (.call (.ref fa) ⟨[.ref a], []⟩) (LawEnd s1) s1 := by
  have gone : ∀ {b : Addr} {o : Obj} {es : Array DictEntry} {ep : Nat}, s1.heap.get? b = some o → o.data = .dict es ep → T b = none := by
    intro b o es ep e d
    rcases hT : T b with _ | u
    · rfl
    · have z := tA b (by rw [hT]; exact fun y => nomatch y)
      subst z
      rw [ha] at e
      cases e
      exact absurd (show Data.seq vs.toArray _ = Data.dict es ep from d) (fun y => by cases y)
  have names : ∀ {b : Addr} {m : Str → Option Value}, s1.heap.Ns b m → (hidT s1.heap T).Ns b m := by
    intro b m z
    obtain ⟨o, es, ep, e, d, r⟩ := z
    exact ⟨o, es, ep, hidT_get e (gone e d), d, r⟩
  have kbase : K.In (hidT s1.heap T) := by
    intro b o e
    refine hidT_get (kin b o e) ?_
    rcases hT : T b with _ | u
    · rfl
    · have z := tA b (by rw [hT]; exact fun y => nomatch y)
      subst z
      rw [tK (by rw [hT]; exact fun y => nomatch y)] at e
      cases e
  have md : Mod K mg (hidT s1.heap T) := ⟨kbase, names hns, ⟨mb, names hb, hbb⟩, by
    obtain ⟨mc, z1, z2⟩ := nolim
    exact ⟨mc, names z1, z2⟩⟩
  have env : Env0 P w K mg (hidT s1.heap T) callerA [] s1 T := ⟨rfl, md, fun b o e => of_hidT e, Nat.le_of_eq (hidT_size _ _), trivial, fun b z => absurd (show b ∈ ([] : List Addr) from z) (by simp), tOk, .of_eq hg⟩
  have run := (F _ kbase (names hns)).go callerA [] s1 T ⟨[.ref a], []⟩ [.ref a] [.ref a] _ _ gd room env (bind s1 (.ref a)) (.cons rfl .nil) hq
  refine codeAny_mono run ?_
  intro r z hz
  rcases r with e | fl
  · exact False.elim hz
  cases fl with
  | next => exact False.elim hz
  | brk => exact False.elim hz
  | cont => exact False.elim hz
  | ret u =>
    obtain ⟨v, T2, os, bare, un, ok2, rv, q⟩ := hz
    have q : v = .bl true := q
    subst q
    obtain rfl : u = Value.bool true := rv
    refine ⟨rfl, OldK.of_keep ?_, os, bare⟩
    intro b o e
    rcases hT : T b with _ | u
    · exact un.keep b o e hT (fun y => absurd (show b ∈ ([] : List Addr) from y) (by simp)) (by simp)
    · rcases tOnly b with y | ⟨ob, xs, y⟩
      · rw [hT] at y
        cases y
      · have y2 := (tOk b _ y).1
        rw [e] at y2
        cases y2
        exact (ok2 b _ (un.frzs b _ _ y)).1
/-- the law's call -/
theorem lawG_call (kin : K.In s1.heap) (hns : s1.heap.Ns mainGlobals mg) (hb : s1.heap.Ns builtinsNs mb) (hbb : ∀ y : Str, y ≠ "__name__" → mb y = bootBuiltins y) (nolim : s1.heap.NoLimit) (hg : s1.gens = #[])
    (ha : s1.heap.get? a = some { cls := .type "list", data := .seq vs.toArray }) (hi : IntsAre vs ns) (hl : ns.length ≤ sizeLine) (room : Room k callerA) (gd : callerA.guards = some [])
    (F : ∀ base : Heap, K.In base → base.Ns mainGlobals mg → FnG P w K mg base k fa fd [x] sp) (bind : ∀ (s : Shared) (u : Value), BindsTo s fd ⟨[u], []⟩ [(x, u)])
    (hsp : ∀ H : Hp, L2.Only H → SqL K H a (ns.map V.int) → sp [.ref a] H (fun v _ => v = .bl true) E0) : codeAny (model P w) callerA (.call (.ref fa) ⟨[.ref a], []⟩) (LawEnd s1) s1 := by
  have len := hi.length
  have rv := vals_ints hi
  rcases hk : K.lookup a with _ | o
  · let T : Hp := fun b => if b = a then some (.frz { cls := .type "list", data := .seq vs.toArray } (.lst (ns.map V.int))) else none
    have Ta : T a = some (.frz { cls := .type "list", data := .seq vs.toArray } (.lst (ns.map V.int))) := if_pos rfl
    have Tn : ∀ b, b ≠ a → T b = none := fun b h => if_neg h
    have on : L2.Only T := by
      intro b
      by_cases h : b = a
      · exact .inr ⟨_, _, h ▸ Ta⟩
      · exact .inl (Tn b h)
    refine lawG_at kin hns hb hbb nolim hg ha room gd F bind (hsp T on (.inl (.inr ⟨_, Ta⟩))) on ?_ (fun b h => ?_) fun _ => hk
    · intro b u e
      by_cases h : b = a
      · subst h
        rw [Ta] at e
        cases e
        refine ⟨ha, ?_, vs, _, rv, ha⟩
        rw [List.length_map]
        exact hl
      · rw [Tn b h] at e
        cases e
    · by_cases z : b = a
      · exact z
      · exact absurd (Tn b z) h
  · have e := kin a o hk
    rw [ha] at e
    cases e
    refine lawG_at (T := fun _ => none) kin hns hb hbb nolim hg ha room gd F bind (hsp _ (fun _ => .inl rfl) (.inr ⟨_, vs.toArray, _, hk, rfl, rfl, rfl, by rw [List.size_toArray, len]; exact hl, by simpa using rv⟩)) (fun _ => .inl rfl) ?_ (fun _ h => absurd rfl h) fun h => absurd rfl h
    intro b u z
    cases z
end
/-- the end of a law that is walked where no repr runs -/
theorem walkG_of {l : PySem.W.OpenLaw} {n k : Nat} {q : Program} {loose : List Str} {XP : (Str → Option Value) → Heap → Prop} {YP : World → Heap → Prop} {d : DefRec} {K : Params → PySem.W.Frag} {sp : PySem.W.Frag → Sp} {x : Str}
    (hn : l.most = some n) (hn2 : n ≤ sizeLine) (hdf : d.params.defaults = []) (room : Room k callerA) (gd : callerA.guards = some []) (hY : ∀ (w : World) (h : Heap), YP w h → (K w.params).In h)
    (F : ∀ (w : World) (mg : Str → Option Value) (fa : Addr) (h : Heap), (K w.params).In h → h.Ns mainGlobals mg → mg d.name = some (.ref fa) →
      ∃ fd : FuncData, (∀ (s : Shared) (u : Value), BindsTo s fd ⟨[u], []⟩ [(x, u)]) ∧ ∀ base : Heap, (K w.params).In base → base.Ns mainGlobals mg → FnG l.prog w (K w.params) mg base k fa fd [x] (sp (K w.params)))
    (hsp : ∀ (K : PySem.W.Frag) (H : Hp) (a : Addr) (ns : List Int), ns.length ≤ n → L2.Only H → SqL K H a (ns.map V.int) → sp K [.ref a] H (fun v _ => v = .bl true) E0) :
    PySem.W.WalkO q loose XP YP l.row.toRowW d [] (fun f vs => PySem.call f vs) := by
  refine Att.attach_call hn hdf ?_
  intro w s0 s1 mg mb fa o pm cd doc a vs ns G Y ho hd hcd hmg hobj hints hlen hg
  obtain ⟨fd, b, hF⟩ := F w mg fa _ (hY w _ Y) G.T.g hmg
  exact lawG_call (hY w _ Y) G.T.g G.T.b G.T.builtins G.T.nolimit hg hobj hints (Nat.le_trans hlen hn2) room gd hF b fun H h1 h2 => hsp (K w.params) H a ns hlen h1 h2
end DL
end
section
namespace DL
open PySem PySem.Spec PyProof.Rows L2
section
variable {K : PySem.W.Frag}
theorem funA_mk {x qual : Str} {st : Stmt} {f : Addr} {oc dV : Value} {od an : Option Addr} {osl : Array (Option Value)} {kV doc pm cdv ct : Value} (l : K.lookup f = some ⟨oc, od, .func (PySem.W.fnOf x qual (defArgs st) (defBody st) (defScope st) dV kV doc pm an cdv ct), osl⟩)
    (c : PySem.W.codeIn K cdv qual = true) : FunA K x qual st f (PySem.W.fnOf x qual (defArgs st) (defBody st) (defScope st) dV kV doc pm an cdv ct) dV := ⟨oc, od, kV, doc, pm, an, cdv, ct, osl, rfl, l, c⟩
theorem FunA.binds {x qual : Str} {st : Stmt} {f T : Addr} {fd : FuncData} {ps : List Str} {oT : Obj} {its : Array Value} {n : Nat} (F : FunA K x qual st f fd (.ref T)) (m : Nat) (hm : m + its.size = ps.length) (lT : K.lookup T = some oT) (dT : oT.data = .seq its n)
    (h : ∀ (kV doc pm : Value) (an : Option Addr) (cdv ct : Value) (us : List Value), us.length = m →
      ∃ k, bindArgs (PySem.W.fnOf x qual (defArgs st) (defBody st) (defScope st) (.ref T) kV doc pm an cdv ct) ⟨us, []⟩ = seqItems? (.ref T) >>= k ∧ k (some its) = pure (ps.zip (us ++ its.toList))) : Binds K fd ps its.toList := by
  obtain ⟨oc, od, kV, doc, pm, an, cdv, ct, osl, rfl, lk, hcd⟩ := F.ex
  intro s us kin hlen
  obtain ⟨k, e1, e2⟩ := h kV doc pm an cdv ct us (by have z := hlen; simp at z; omega)
  refine BindsTo.of_looks fun M => ?_
  rw [e1]
  exact looks_items kin lT dT (.of_pure e2)
/-- every parameter is given, though there are defaults -/
theorem FunA.binds0 {x qual : Str} {st : Stmt} {f T : Addr} {fd : FuncData} {ps : List Str} {oT : Obj} {its : Array Value} {n : Nat} (F : FunA K x qual st f fd (.ref T)) (lT : K.lookup T = some oT) (dT : oT.data = .seq its n)
    (h : ∀ (kV doc pm : Value) (an : Option Addr) (cdv ct : Value) (us : List Value), us.length = ps.length →
      ∃ k, bindArgs (PySem.W.fnOf x qual (defArgs st) (defBody st) (defScope st) (.ref T) kV doc pm an cdv ct) ⟨us, []⟩ = seqItems? (.ref T) >>= k ∧ k (some its) = pure (ps.zip us)) : Binds K fd ps [] := by
  obtain ⟨oc, od, kV, doc, pm, an, cdv, ct, osl, rfl, lk, hcd⟩ := F.ex
  intro s us kin hlen
  rw [List.append_nil] at hlen ⊢
  obtain ⟨k, e1, e2⟩ := h kV doc pm an cdv ct us hlen
  refine BindsTo.of_looks fun M => ?_
  rw [e1]
  exact looks_items kin lT dT (.of_pure e2)
end
end DL
end
section
namespace EqO
open PySem PySem.Spec PyProof.Rows L2
section
variable {M : Model} {prog : Program} {w : World} {A : Around} {E : Value → Shared → Prop} {s : Shared} {K : PySem.W.Frag} {x C f : Addr} {ox : Obj} {od : Option Obj} {b tb : Value}
theorem sub_of {T : String} (e : fastBuiltinMro T = some [.type T, .type "object"]) : PySem.W.subIn K (.type T) (.ref C) = some false := by
  show (fastBuiltinMro T).map (·.contains (.ref C)) = some false
  rw [e]
  first
    | rfl
    | simp
theorem nf_of {T : String} (e : fastBuiltinMro T = some [.type T, .type "object"]) : PySem.W.notFirst K C (.type T) = true := by
  unfold PySem.W.notFirst
  rw [sub_of e]
  simp
theorem bound_ne {args : List Value} {Q : Option Value → Shared → Prop} (X : K.In s.heap) (I : PySem.W.InstAt s.heap x ox C od) (hs : PySem.W.findIn K (.ref C) "__ne__" = some (some (.builtin "object.__ne__")))
    (h : wpAny M A (call (.builtin "object.__ne__") (.ref x :: args)) (fun v => Q (some v)) E s) : wpAny M A (callSpecialIfBound? (.ref x) "__ne__" args) Q E s := by
  simp only [callSpecialIfBound?, bindSpecialIfBound?]
  refine wpAny_holding (wpAny_bind (wpAny_bind (wpAny_bind (I.type.here ((PySem.W.looks_findIn X hs).here ?_)))))
  refine wpAny_bind (wpAny_askSetting (wpAny_ite ?_))
  have go : wpAny M A (call (.builtin "object.__ne__") ([.ref x] ++ args) >>= fun v => pure (some v)) Q E s := wpAny_bind (wpAny_mono h (fun v s' q => wpAny_pure q) fun _ _ q => q)
  split
  · exact wpAny_bind (wpAny_of_eq (F.cmp_object.ne.bind _) (wpAny_pure (by exact go)))
  · exact wpAny_tryCatch (wpAny_bind (wpAny_of_eq (F.cmp_object.ne.bind _) (wpAny_pure (by exact go))))
theorem entry_ne {Q : Fin → Shared → Prop} (hu : A.units < cLine) (X : K.In s.heap) (I : PySem.W.InstAt s.heap x ox C od) (hs : PySem.W.findIn K (.ref C) "__eq__" = some (some (.ref f))) (hf : PySem.W.isFn K (.ref f) = true)
    (hc : wpAny (model prog w) A (call (.ref f) [.ref x, b]) (fun v s' => ∃ k, v = .bool k ∧ Q (.done (.ret (.bool (!k)))) s') E s) : wpAny (model prog w) A (Builtin.«object.__ne__» ⟨[.ref x, b], []⟩) Q E s := by
  unfold Builtin.«object.__ne__»
  refine wpAny_bind (wpAny_pure ?_)
  refine wpAny_bind (wpAny_cRoomFor hu ?_)
  refine wpAny_bind (PySem.W.ifBound_K X I hs hf (wpAny_mono hc (fun v s' q => ?_) fun _ _ q => q))
  obtain ⟨k, rfl, q⟩ := q
  refine wpAny_bind (wpAny_truthy_bool ?_)
  exact wpAny_pure q
theorem rc_ne {Q : Value → Shared → Prop} (hu : A.units + 1 < cLine) (X : K.In s.heap) (I : PySem.W.InstAt s.heap x ox C od) (hb : PySem.W.Looks (model prog w) s.heap (typeOf b) tb) (hn : PySem.W.notFirst K C tb = true)
    (hs : PySem.W.findIn K (.ref C) "__eq__" = some (some (.ref f))) (hf : PySem.W.isFn K (.ref f) = true) (hne : PySem.W.findIn K (.ref C) "__ne__" = some (some (.builtin "object.__ne__"))) (ho : PySem.W.mroIn K C (.type "object") = some true)
    (hc : wpAny (model prog w) A.in1 (call (.ref f) [.ref x, b]) (fun v s' => ∃ k, v = .bool k ∧ Q (.bool (!k)) s') E s) : wpAny (model prog w) A (richCompare .NotEq (.ref x) b) Q E s := by
  have one : wpAny (model prog w) A (tryCompare (.ref x) "__ne__" b) (fun r s' => ∃ v, r = some v ∧ Q v s') E s := by
    unfold tryCompare
    refine wpAny_bind (bound_ne X I hne (wpAny_call (codeAny_call_builtin F.cmp_object.ne.plain F.cmpEntry_ne (PySem.W.check_slot F.cmpKind_ne F.cmpSplit_ne (I.type.andThen (PySem.W.looks_mroIn X ho)) (F.cmpArgs_ne _ _) (entry_ne (A := A.in1) hu X I hs hf (wpAny_mono hc (fun v s' q => ?_) fun _ _ q => q))))))
    obtain ⟨k, rfl, q⟩ := q
    exact ⟨k, rfl, wpAny_pure ⟨_, rfl, q⟩⟩
  simp only [richCompare, cmpInfo_NotEq, oneThing_ref]
  refine wpAny_holding (wpAny_bind (wpAny_cRoomFor (Nat.lt_of_succ_lt hu) ?_))
  refine wpAny_bind (I.type.here (wpAny_bind (hb.here ?_)))
  split
  · rename_i q
    have e : PySem.W.subIn K tb (.ref C) = some false := by
      rcases Bool.or_eq_true_iff.mp hn with e | e
      · rw [beq_iff_eq.mp e] at q
        simp at q
      · exact beq_iff_eq.mp e
    refine wpAny_bind ((PySem.W.looks_subIn X e).here ?_)
    simp only [Bool.false_eq_true, if_false]
    refine wpAny_bind (wpAny_mono one (fun r s' z => ?_) fun _ _ e => e)
    obtain ⟨v, rfl, hq⟩ := z
    exact wpAny_pure hq
  · refine wpAny_bind (wpAny_pure ?_)
    simp only [Bool.false_eq_true, if_false]
    refine wpAny_bind (wpAny_mono one (fun r s' z => ?_) fun _ _ e => e)
    obtain ⟨v, rfl, hq⟩ := z
    exact wpAny_pure hq
end
end EqO
end
section
namespace DL
open PySem L2
structure EqK (K : PySem.W.Frag) (C f : Addr) : Prop where
  at_ : PySem.W.findIn K (.ref C) "__eq__" = some (some (.ref f))
  fn : PySem.W.isFn K (.ref f) = true
  ne_ : PySem.W.findIn K (.ref C) "__ne__" = some (some (.builtin "object.__ne__"))
  ob : PySem.W.mroIn K C (.type "object") = some true
/-- what an instance may be compared with -/
def TyOk (K : PySem.W.Frag) (C : Addr) (H : Hp) (y : V) : Prop := y = .non ∨ (∃ q xs, y = .ref q ∧ SqL K H q xs) ∨ (∃ q xs, y = .ref q ∧ SqT K H q xs) ∨ ∃ q D dx fs, y = .ref q ∧ H q = some (.ins D dx fs) ∧ PySem.W.notFirst K C (.ref D) = true
def rEqO (p : Par) (C : Addr) (wf : WF) (neg : Bool) : R2 := fun x y H Q => ∃ a dx fs, x = .ref a ∧ H a = some (.ins C dx fs) ∧ TyOk p.K C H y ∧ spW p 2 wf [x, y] H (fun v H' => ∃ b, v = .bl b ∧ Q (.bl (if neg then !b else b)) H') E0
structure Geq (P : Program) (w : World) (K : PySem.W.Frag) (mg : Str → Option Value) (base : Heap) (p : Par) (C : Addr) (k : Nat) (wf : WF) : Prop where
  ex : ∃ (f : Addr) (fd : FuncData) (ps : List Str), FnOk P w K mg base CX0 k f fd ps (spW p 2 wf) ∧ EqK K C f ∧ Binds K fd ps []
section
variable {p : Par} {X : Cx} {a b : Expr} {ta tb : TE} {wa wb : WE} {C : Addr} {k : Nat} {wf : WF} {pos : Pos}
theorem ty_looks {M : Model} {pins : List (Addr × Obj)} {s : Shared} {σ : L2.St} {H : Hp} {y : V} {u : Value} (I : L2.Inv X pins σ H s) (r : RelV y u) (h : TyOk X.K C H y) : ∃ t, PySem.W.Looks M s.heap (typeOf u) t ∧ PySem.W.notFirst X.K C t = true := by
  rcases h with rfl | ⟨q, xs, rfl, hs⟩ | ⟨q, xs, rfl, hs⟩ | ⟨q, D, dx, fs, rfl, hs, hn⟩
  · cases r
    exact ⟨.type "NoneType", .of_pure rfl, EqO.nf_of (by decide +kernel)⟩
  · cases r
    obtain ⟨its, rv, hl, _⟩ := I.list hs
    obtain ⟨o, ho, hc⟩ := hl.isList.typeIs
    exact ⟨.type "list", hc ▸ (PySem.W.Looks.ld ho).andThen .now, EqO.nf_of (by decide +kernel)⟩
  · cases r
    obtain ⟨its, rv, hl, _⟩ := I.tuple hs
    obtain ⟨o, ho, hc⟩ := hl.typeIs
    exact ⟨.type "tuple", hc ▸ (PySem.W.Looks.ld ho).andThen .now, EqO.nf_of (by decide +kernel)⟩
  · cases r
    obtain ⟨mA, O, _⟩ := ins_get I.hok hs
    obtain ⟨od, J, _⟩ := O.look
    exact ⟨.ref D, J.type, hn⟩
theorem op_eqO (neg : Bool) (G : Geq X.prog X.w X.K X.mg X.base p C k wf) (hK : X.K = p.K) (hr : Room (k + 1) X.A) : OpR X (compareOp (if neg then .NotEq else .Eq)) (rEqO p C wf neg) := by
  obtain ⟨f, fd, ps, F, E, bb⟩ := G.ex
  intro pins s σ H x y v u Q I rx ry h
  obtain ⟨q, dx, fs, rfl, ea, ty, h⟩ := h
  obtain rfl : v = Value.ref q := rx
  obtain ⟨mA, O, _⟩ := ins_get I.hok ea
  obtain ⟨od, J, _⟩ := O.look
  obtain ⟨m, Fm⟩ := I.fr
  obtain ⟨t, ht, hn⟩ := ty_looks (C := C) (M := model X.prog X.w) I ry (by rw [hK]; exact ty)
  cases neg with
  | false =>
    show wpAny (model X.prog X.w) X.A (richCompare .Eq (.ref q) u) (EP X pins σ Q) X.xe s
    refine PySem.W.cmp_K (op := .Eq) hr.units0 Fm I.ok.mod.kin J ht hn E.at_ E.fn ?_
    refine thn (run_fn (us := [.ref q, u]) (vs := [.ref q, y]) F (hr.mono (Nat.le_succ k)) bb .nil pass0 I (.cons rfl (.cons ry .nil)) h) fun r s1 ⟨z, H1, I1, rz, b, ez, q1⟩ => ?_
    subst ez
    cases rz
    exact ⟨.bl b, H1, I1, rfl, by simpa using q1⟩
  | true =>
    show wpAny (model X.prog X.w) X.A (richCompare .NotEq (.ref q) u) (EP X pins σ Q) X.xe s
    have F' := F.raw bb .nil
    have hu : X.A.units + 1 < cLine := hu_of hr
    refine EqO.rc_ne hu I.kIn J ht hn E.at_ E.fn E.ne_ E.ob ?_
    refine thn (wpAny_call (SlX.run_at (us := [.ref q, u]) (ws := [.ref q, y]) F' hr.in1 I.env0.in1 pass0 I (.cons rfl (.cons ry .nil)) h)) fun r s1 ⟨z, H1, I1, rz, b, ez, q1⟩ => ?_
    subst ez
    cases rz
    exact ⟨b, rfl, .bl (!b), H1, I1, rfl, by simpa using q1⟩
/-- d == e, d an instance of c; os: the classes that e may be of -/
def eqArg (p : Par) (C : Addr) (os : List String) : D → Prop
  | .non => True
  | .lst _ => True
  | .tup _ => True
  | .obj c _ _ => c ∈ os
  | _ => False
def wEqO (c : String) (os : List String) (neg : Bool) (wf : WF) (wa wb : WE) : WE := fun ρ n Q => wa ρ n fun d ρ1 n1 => wb ρ1 n1 fun o ρ2 n2 => match d with
  | .obj c' _ _ => c' = c ∧ (match o with
    | .non => True
    | .lst _ => True
    | .tup _ => True
    | .obj c2 _ _ => c2 ∈ os
    | _ => False) ∧ wf [d, o] n2 fun r n3 => onB r fun k => Q (.bl (if neg then !k else k)) ρ2 n3
  | _ => False
theorem sim_eqO {c : String} {os : List String} {neg : Bool} (cp : ClsP p c C) (hos : ∀ o ∈ os, ∃ D, p.cls o = some D ∧ PySem.W.notFirst p.K C (.ref D) = true) (ha : SimE p ta wa) (hb : SimE p tb wb) : SimE p (tOp (rEqO p C wf neg) ta tb) (wEqO c os neg wf wa wb) := by
  intro O0 H0 σ H ρ n Q QV S hw kk
  refine ha O0 H0 σ H ρ n _ _ S hw fun d ρ1 n1 x H1 q1 S1 r1 x1 => ?_
  refine hb O0 H0 σ H1 ρ1 n1 _ _ S1 q1 fun o ρ2 n2 y H2 q2 S2 r2 x2 => ?_
  split at q2
  · obtain ⟨rfl, ho, q⟩ := q2
    have r1' := Rp.gr x2.gr _ _ r1
    obtain ⟨a, C', dx, xs, rfl, m1, h1, hc', en, rl⟩ := id r1'
    rw [cp.at_] at hc'; cases hc'
    refine ⟨a, dx, xs, rfl, h1, ?_, ?_⟩
    · split at ho
      · exact .inl r2
      · obtain ⟨b, vs, rfl, n1, h2, _⟩ := r2
        exact .inr (.inl ⟨b, vs, rfl, SqL.of h2⟩)
      · obtain ⟨b, vs, rfl, h2, _⟩ := r2
        refine .inr (.inr (.inl ⟨b, vs, rfl, ?_⟩))
        rcases h2 with ⟨_, h2⟩ | h2
        · exact SqT.of h2
        · obtain ⟨ob, its, m, l1, l2, l3, l4, l5⟩ := h2
          exact .inr ⟨ob, its, m, l1, l2, l3, l4, l5⟩
      · obtain ⟨b, D, dy, ys, rfl, _, h2, hc2, _⟩ := r2
        obtain ⟨D', e1, e2⟩ := hos _ ho
        rw [e1] at hc2; cases hc2
        exact .inr (.inr (.inr ⟨b, _, dy, ys, rfl, h2, e2⟩))
      · exact ho.elim
    · refine call_asks (Q := fun r ρ' n' => ρ' = ρ2 ∧ onB r fun k => Q (.bl (if neg then !k else k)) ρ2 n') (ds := [_, o]) S2 (.cons r1' (.cons r2 rfl)) rfl ?_ fun d' n3 v H3 q' S' rv x3 => ?_
      · simpa using q
      · obtain ⟨_, q'⟩ := q'
        obtain ⟨b, rfl, q'⟩ := onB_get q'
        exact ⟨b, rv, kk _ ρ2 n3 _ H3 q' S' rfl ((x1.trans x2).trans x3)⟩
  · exact q2.elim
theorem pd_eqO (c : String) (os : List String) (cp : ClsP p c C) (hos : ∀ o ∈ os, ∃ D, p.cls o = some D ∧ PySem.W.notFirst p.K C (.ref D) = true) (hK : X.K = p.K) (G : Geq X.prog X.w X.K X.mg X.base p C k wf) (hr : Room (k + 1) X.A) (ha : PD p X a ta wa) (hb : PD p X b tb wb) (hm : behindInMarks .Eq b = false := by rfl) :
    PD p X (.Compare a [.Eq] [b] pos) (tOp (rEqO p C wf false) ta tb) (wEqO c os false wf wa wb) := ⟨pe_cmpR (op_eqO false G hK hr) ha.pe hb.pe hm, sim_eqO cp hos ha.sim hb.sim⟩
theorem pd_neO (c : String) (os : List String) (cp : ClsP p c C) (hos : ∀ o ∈ os, ∃ D, p.cls o = some D ∧ PySem.W.notFirst p.K C (.ref D) = true) (hK : X.K = p.K) (G : Geq X.prog X.w X.K X.mg X.base p C k wf) (hr : Room (k + 1) X.A) (ha : PD p X a ta wa) (hb : PD p X b tb wb) (hm : behindInMarks .NotEq b = false := by rfl) :
    PD p X (.Compare a [.NotEq] [b] pos) (tOp (rEqO p C wf true) ta tb) (wEqO c os true wf wa wb) := ⟨pe_cmpR (op_eqO true G hK hr) ha.pe hb.pe hm, sim_eqO cp hos ha.sim hb.sim⟩
theorem pdt_eqO (c : String) (os : List String) (cp : ClsP p c C) (hos : ∀ o ∈ os, ∃ D, p.cls o = some D ∧ PySem.W.notFirst p.K C (.ref D) = true) (hK : X.K = p.K) (G : Geq X.prog X.w X.K X.mg X.base p C k wf) (hr : Room (k + 1) X.A) (ha : PD p X a ta wa) (hb : PD p X b tb wb) (hm : behindInMarks .Eq b = false := by rfl) :
    PDT p X (.Compare a [.Eq] [b] pos) (tTest (tOp (rEqO p C wf false) ta tb)) (wTest (wEqO c os false wf wa wb)) := ⟨pt_cmpR (op_eqO false G hK hr) ha.pe hb.pe hm, sim_test (sim_eqO cp hos ha.sim hb.sim)⟩
theorem pdt_neO (c : String) (os : List String) (cp : ClsP p c C) (hos : ∀ o ∈ os, ∃ D, p.cls o = some D ∧ PySem.W.notFirst p.K C (.ref D) = true) (hK : X.K = p.K) (G : Geq X.prog X.w X.K X.mg X.base p C k wf) (hr : Room (k + 1) X.A) (ha : PD p X a ta wa) (hb : PD p X b tb wb) (hm : behindInMarks .NotEq b = false := by rfl) :
    PDT p X (.Compare a [.NotEq] [b] pos) (tTest (tOp (rEqO p C wf true) ta tb)) (wTest (wEqO c os true wf wa wb)) := ⟨pt_cmpR (op_eqO true G hK hr) ha.pe hb.pe hm, sim_test (sim_eqO cp hos ha.sim hb.sim)⟩
end
end DL
end
section
namespace DL
open PySem PySem.Spec PyProof.Rows L2 RZ
/-- a tuple at a beside a list at b, in new pairs -/
def ItzM (K : PySem.W.Frag) (a b : Addr) : It where
  go := fun i H => ∃ (xs ys : List V) (x y : V), SqT K H a xs ∧ SqL K H b ys ∧ xs[i]? = some x ∧ ys[i]? = some y
  yld := fun i H v H' => ∃ U x y, v = .ref U ∧ H U = none ∧ H' = upd H U (.tup [x, y]) ∧ (∀ xs, SqT K H a xs → xs[i]? = some x) ∧ ∀ ys, SqL K H b ys → ys[i]? = some y
  stop := fun i H => ∃ xs ys : List V, SqT K H a xs ∧ SqL K H b ys ∧ i ≤ xs.length ∧ i ≤ ys.length ∧ (i = xs.length ∨ i = ys.length)
theorem walk_zipM {K : PySem.W.Frag} {a b : Addr} {xs ys : List V} {n : Nat} (hn : n = min xs.length ys.length) : Walk (ItzM K a b) n (fun H => SqT K H a xs ∧ SqL K H b ys) (YPair (fun i => xs[i]?) (fun i => ys[i]?)) := by
  subst hn
  constructor
  · intro i H hi q
    have h1 : i < xs.length := by omega
    have h2 : i < ys.length := by omega
    refine ⟨xs, ys, xs[i], ys[i], q.1, q.2, ?_, ?_⟩ <;> simp [h1, h2]
  · intro H q
    exact ⟨xs, ys, q.1, q.2, by omega, by omega, by omega⟩
  · rintro i H v H' _ q ⟨U, x, z, h1, h2, h3, h4, h5⟩
    exact ⟨U, x, z, h1, h2, h3, h4 xs q.1, h5 ys q.2⟩
/-- the cells of such a zip -/
structure ZmAt (z p o i1 i2 a b : Addr) : Prop where
  s : ZipSep2 z p o i1 i2 [i1, a] [i2, b]
  n1 : a ≠ i1
  n2 : b ≠ i2
  n3 : i1 ≠ i2
theorem zm_new {n a b : Nat} (ha : a < n) (hb : b < n) : ZmAt (n + 4) (n + 2) (n + 3) n (n + 1) a b := by
  have m : ∀ {c x y : Nat}, c ≠ x → c ≠ y → c ∉ [x, y] := fun h1 h2 h => by
    rcases List.mem_cons.mp h with h | h
    · exact h1 h
    · exact h2 (List.mem_singleton.mp h)
  exact ⟨⟨(by omega : n + 2 ≠ n + 4), (by omega : n + 3 ≠ n + 4), (by omega : n + 2 ≠ n + 3), (by omega : n + 2 ≠ n), List.mem_cons_self, m (by omega : n + 4 ≠ n) (by omega : n + 4 ≠ a), m (by omega : n + 3 ≠ n) (by omega : n + 3 ≠ a), (by omega : n + 2 ≠ n + 1), List.mem_cons_self, m (by omega : n + 4 ≠ n + 1) (by omega : n + 4 ≠ b), m (by omega : n + 3 ≠ n + 1) (by omega : n + 3 ≠ b),
    m (by omega : n ≠ n + 1) (by omega : n ≠ b), m (by omega : n + 1 ≠ n) (by omega : n + 1 ≠ a)⟩, (by omega : a ≠ n), (by omega : b ≠ n + 1), (by omega : n ≠ n + 1)⟩
def ZmOn (z p o i1 i2 a b : Addr) (i : Nat) (h : Heap) : Prop := IsZip h z p o .none ∧ IsTupOf2 h p (.ref i1) (.ref i2) ∧ (∃ x y, IsTupOf2 h o x y) ∧ h.IsTupleIter i1 a i ∧ h.IsListIter i2 b i
theorem ZmOn.cell {z p o i1 i2 a b : Addr} {i : Nat} {h : Heap} (st : ZmOn z p o i1 i2 a b i h) : ∀ c ∈ [z, p, o, i1, i2], ∃ ob, h.get? c = some ob ∧ ∀ v, ob.data ≠ .cell v := by
  obtain ⟨q1, q2, ⟨x, y, q3⟩, ⟨ob1, e1, _, d1⟩, ⟨ob2, e2, _, d2⟩⟩ := st
  intro c hc
  simp only [List.mem_cons, List.not_mem_nil, or_false] at hc
  rcases hc with e | e | e | e | e <;> subst e
  · exact ⟨_, q1, fun v q => nomatch q⟩
  · exact ⟨_, q2, fun v q => nomatch q⟩
  · exact ⟨_, q3, fun v q => nomatch q⟩
  · exact ⟨ob1, e1, fun v q => by rw [d1] at q; cases q⟩
  · exact ⟨ob2, e2, fun v q => by rw [d2] at q; cases q⟩
theorem turn_zipM {P : Program} {w : World} {K : PySem.W.Frag} {elts : List Expr} {kk : Nat} {tpos : Pos} {a b z p o i1 i2 : Addr} (Z : ZmAt z p o i1 i2 a b) : Turn P w K (.Tuple elts kk tpos) (ItzM K a b) [z, p, o, i1, i2] z (ZmOn z p o i1 i2 a b) where
  mem := by simp
  obj := fun i h st => st.cell
  keep := fun i h h' st k => by
    obtain ⟨q1, q2, ⟨x, y, q3⟩, q4, q5⟩ := st
    exact ⟨k z (by simp) _ q1, k p (by simp) _ q2, ⟨x, y, k o (by simp) _ q3⟩, q4.at fun ob q => k i1 (by simp) ob q, q5.at fun ob q => k i2 (by simp) ob q⟩
  item := by
    intro X hP hw hK hc i pins s σ H E I hf st hg
    subst hP hw hK
    have hcell := st.cell
    obtain ⟨q1, q2, ⟨x0, y0, q3⟩, q4, q5⟩ := st
    obtain ⟨xs, ys, x, y, hqx, hqy, hx, hy⟩ := hg
    obtain ⟨its, rv, pt, _⟩ := I.tuple hqx
    obtain ⟨its2, rv2, pl, _⟩ := I.list hqy
    obtain ⟨u, hu, ru⟩ := rv.get hx
    obtain ⟨u2, hu2, ru2⟩ := rv2.get hy
    have hh : X.A.in1.handled = none := I.ok.hd hc
    have lt1 : i < its.toArray.size := by
      have := (List.getElem?_eq_some_iff.mp hu).1
      simpa using this
    have lt2 : i < its2.toArray.size := by
      have := (List.getElem?_eq_some_iff.mp hu2).1
      simpa using this
    have hzl : z < s.heap.objs.size := Heap.lt_size q1
    refine wpAny_pyNext_zipD2_item Z.s (Draws.tuple (prog := X.prog) (w := X.w) hh i1 a Z.n1 its.toArray) (Draws.list (prog := X.prog) (w := X.w) hh i2 b Z.n2 its2.toArray) q1 q2 q3 ⟨q4, pt⟩ ⟨q5, pl.isList⟩ lt1 lt2 fun v1 v2 h' tk e1 e2 z' o' st1 st2 hT hsz hk => ?_
    obtain rfl : v1 = u := by
      have : some v1 = some u := by rw [← hu, ← e1]; simp
      exact Option.some.inj this
    obtain rfl : v2 = u2 := by
      have : some v2 = some u2 := by rw [← hu2, ← e2]; simp
      exact Option.some.inj this
    refine ⟨_, rfl, wpAny_letOwnedTupleGo_zip (s := { s with heap := h', toks := tk }) z' fun h'' z'' sb => ?_⟩
    have hT2 : h''.get? s.heap.objs.size = some { cls := .type "tuple", data := .seq #[v1, v2] } := (sb.2 _ (Nat.ne_of_gt hzl)).trans hT
    have new : ObjOk X.prog X.w (upd H s.heap.objs.size (.tup [x, y])) h'' s.heap.objs.size (.tup [x, y]) := by
      refine ⟨?_, [v1, v2], .cons ru (.cons ru2 .nil), ⟨_, hT2, rfl, _, rfl⟩⟩
      show 2 ≤ sizeLine
      decide
    have I1 : Inv X pins σ (upd H s.heap.objs.size (.tup [x, y])) { s with heap := h'', toks := tk } := by
      refine I.turnedNew (ch := [z, p, o, i1, i2]) (fun c ob hb q => ?_) hf (Nat.le_refl _) new
      have m1 : c ≠ z := fun e => hb (by simp [e])
      have m2 : c ≠ o := fun e => hb (by simp [e])
      have m3 : c ≠ i1 := fun e => hb (by simp [e])
      have m4 : c ≠ i2 := fun e => hb (by simp [e])
      exact (sb.2 c m1).trans (hk c ob m1 m2 m3 m4 q)
    refine ⟨.ref s.heap.objs.size, _, I1, rfl, ⟨_, x, y, rfl, I.hok.fresh (Nat.le_refl _), rfl, fun l hl => by rw [I.tuple_inj hl hqx]; exact hx, fun l hl => ?_⟩, ⟨z'', ?_, ⟨v1, v2, ?_⟩, ?_, ?_⟩, fun c hcm => ?_⟩
    · rw [I.list_inj hl hqy]
      exact hy
    · exact (sb.2 _ Z.s.TIz).trans (hk _ _ Z.s.TIz Z.s.TITO Z.s.TIi1 Z.s.TIi2 q2)
    · exact (sb.2 _ Z.s.TOz).trans o'
    · exact st1.1.at fun ob q => (sb.2 _ (Ne.symm Z.s.zi1)).trans q
    · exact st2.1.at fun ob q => (sb.2 _ (Ne.symm Z.s.zi2)).trans q
    · obtain ⟨ob, eb, _⟩ := hcell c hcm
      rw [upd_ne (Nat.ne_of_lt (Heap.lt_size eb))]
      exact (hf c hcm).1
  done := by
    intro X hP hw hK hc i pins s σ H E I hf st hg
    subst hP hw hK
    obtain ⟨q1, q2, ⟨x0, y0, q3⟩, q4, q5⟩ := st
    obtain ⟨xs, ys, hqx, hqy, k1, k2, hend⟩ := hg
    obtain ⟨its, rv, pt, _⟩ := I.tuple hqx
    obtain ⟨its2, rv2, pl, _⟩ := I.list hqy
    have l1 := rv.length
    have l2 := rv2.length
    have hh : X.A.in1.handled = none := I.ok.hd hc
    have z1 : its.toArray.size = xs.length := by rw [List.size_toArray, l1]
    have z2 : its2.toArray.size = ys.length := by rw [List.size_toArray, l2]
    refine wpAny_pyNext_zipD2_end Z.s (Draws.tuple (prog := X.prog) (w := X.w) hh i1 a Z.n1 its.toArray) (Draws.list (prog := X.prog) (w := X.w) hh i2 b Z.n2 its2.toArray) q1 q2 q3 ⟨q4, pt⟩ ⟨q5, pl.isList⟩ (by rw [z1]; exact k1) (by rw [z2]; exact k2) (by rw [z1, z2]; exact hend) fun h' tk hk => ⟨rfl, ?_⟩
    refine I.turnedL (t' := tk) (ch := [z, p, o, i1, i2]) (fun c ob hb q => ?_) hf
    exact hk c ob (fun e => hb (by simp [e])) (fun e => hb (by simp [e])) (fun e => hb (by simp [e])) (fun e => hb (by simp [e])) q
  self := fun A i s Q E st h => wpAny_pyIter_zip st.1 h
def iZipM (K : PySem.W.Frag) (ta : TA) : TI := fun σ H R => ta σ H fun vs H1 => ∃ a b xs ys, vs = [.ref a, .ref b] ∧ SqT K H1 a xs ∧ SqL K H1 b ys ∧ R (ItzM K a b) H1
theorem pi_zipM {X : Cx} {e e2 : Expr} {ta : TA} {p1 pos tpos : Pos} {elts : List Expr} {kk : Nat} (hg : Gl X "zip") (hm : X.mg "zip" = none) (ha : PA X [e, e2] ta) (hs : starEach [e, e2] X.env = (false, eval e X.env) :: starEach [e2] X.env)
    (hpl : (backTo pos (starEach [e2] X.env)).any (·.1) = false) : PI X (.Tuple elts kk tpos) (.Call (.Name "zip" p1) [e, e2] [] pos) (iZipM X.K ta) := by
  refine ⟨fun pins s σ H R I h => ?_⟩
  refine PyProof.Rows.Call_ (ld_blt I hg hm PyProof.Rows.boot_zip (PyProof.Rows.callWith_type1 (thn (ha.run pos pins s σ H _ I h) fun us s1 ⟨vs, H1, I1, r1, q1⟩ => ?_) hs hpl))
  obtain ⟨a, b, xs, ys, rfl, hqx, hqy, q⟩ := q1
  obtain ⟨u, v, rfl, ru, rv⟩ := vals2 r1
  obtain rfl : u = Value.ref a := ru
  obtain rfl : v = Value.ref b := rv
  obtain ⟨its, rl, p2, _⟩ := I1.tuple hqx
  obtain ⟨its2, rl2, p3, _⟩ := I1.list hqy
  have pt : s1.heap.IsTuple a its.toArray := p2
  have pl : s1.heap.IsList b its2.toArray := p3.isList
  obtain ⟨oa, ea, _⟩ := id pt
  obtain ⟨ob, eb, _⟩ := id pl
  refine zip_begins2 (begins_tuple a its.toArray) (begins_list b its2.toArray) pt pl fun h' hz hp ho g1 g2 hsz hk => wpAny_pyIter_zip hz ?_
  have fresh : ∀ c, c ∈ [s1.heap.objs.size + 4, s1.heap.objs.size + 2, s1.heap.objs.size + 3, s1.heap.objs.size, s1.heap.objs.size + 1] → FpOk X pins H1 c := fun c hc => by
    have hle : s1.heap.objs.size ≤ c := by
      simp only [List.mem_cons, List.not_mem_nil, or_false] at hc
      rcases hc with e | e | e | e | e <;> subst e
      · exact Nat.le_add_right _ _
      · exact Nat.le_add_right _ _
      · exact Nat.le_add_right _ _
      · exact Nat.le_refl _
      · exact Nat.le_add_right _ _
    exact I1.fpOk hle (I1.hok.fresh hle)
  have I2 : Inv X pins σ H1 { s1 with heap := h' } := I1.kept (t' := s1.toks) hk
  exact ⟨_, _, _, _, H1, rfl, I2, turn_zipM (zm_new (Heap.lt_size ea) (Heap.lt_size eb)), ⟨hz, hp, ⟨_, _, ho⟩, ⟨_, g1, rfl, rfl⟩, ⟨_, g2, rfl, rfl⟩⟩, fresh, q⟩
section
variable {p : Par} {X : Cx} {tg e e2 : Expr} {pos p1 : Pos} {t : TA} {w : WA}
theorem its_zipM {O : Addr → Prop} {H : Hp} {a b : Addr} {xs ys : List V} {ds es : List D} (h : (¬ O a ∧ H a = some (.tup xs)) ∨ TupK p.K a xs) (r : RpL p O H ds xs) (n' : ¬ O b) (h' : H b = some (.lst ys)) (r' : RpL p O H es ys) : Itm p O H (ItzM p.K a b) (pairsD ds es) := by
  refine ⟨fun H' => SqT p.K H' a xs ∧ SqL p.K H' b ys, YPair (fun i => xs[i]?) (fun i => ys[i]?), walk_zipM ?_, fun O' H' g => ⟨sqT_gr h g, SqL.of (g _ _ n' h').2⟩, fun i O' Ha x Hb d g th y e => ?_⟩
  · unfold pairsD
    rw [List.length_zipWith, r.length, r'.length]
  · obtain ⟨T, u, v, rfl, hT, rfl, e1, e2⟩ := y
    obtain ⟨da, db, e3, e4, rfl⟩ := pairsD_get e
    obtain ⟨u', e5, ra⟩ := r.get e3
    obtain ⟨v', e6, rb⟩ := r'.get e4
    obtain rfl : u = u' := Option.some.inj (e1.symm.trans e5)
    obtain rfl : v = v' := Option.some.inj (e2.symm.trans e6)
    exact pair_rp th hT (Rp.gr g _ _ ra) (Rp.gr g _ _ rb)
def iZm (w : WA) : WI := fun ρ n Q => w ρ n fun as ρ1 n1 => match as with
  | [.tup xs, .lst ys] => Q (pairsD xs ys) ρ1 n1
  | _ => False
theorem pdi_zipM {tpos : Pos} {elts : List Expr} {kk : Nat} (hK : X.K = p.K) (hm : X.mg "zip" = none) (ha : PDA p X [e, e2] t w) (hg : Gl X "zip" := by rfl) (hs : starEach [e, e2] X.env = (false, eval e X.env) :: starEach [e2] X.env := by rfl) (hpl : (backTo pos (starEach [e2] X.env)).any (·.1) = false := by rfl) :
    PDI p X (.Tuple elts kk tpos) (.Call (.Name "zip" p1) [e, e2] [] pos) (iZipM p.K t) (iZm w) := by
  refine ⟨by rw [← hK]; exact pi_zipM hg hm ha.pa hs hpl, fun O0 H0 σ H ρ n Q R S hw k => ?_⟩
  refine ha.sim O0 H0 σ H ρ n _ _ S hw fun ds ρ1 n1 vs H1 q1 S1 r1 x1 => ?_
  split at q1
  · obtain ⟨x, y, rfl, rx, ry⟩ := rpl2 r1
    obtain ⟨a, xs, rfl, h1, ra⟩ := rx
    obtain ⟨b, ys, rfl, m2, h2, rb⟩ := ry
    exact ⟨a, b, xs, ys, rfl, sqT_of h1, SqL.of h2, k _ ρ1 n1 _ H1 q1 S1 (its_zipM h1 ra m2 h2 rb) x1⟩
  · exact q1.elim
end
end DL
end
section
namespace MnD
open PySem PyProof.Rows
section
variable {prog : Program} {w : World} {A : Around} {E : Value → Shared → Prop} {s : Shared}
theorem min_args (a v : Value) : argsOk "min" ⟨[a], [(Str.ofString "default", v)]⟩ := by unfold argsOk; kernel_rfl
/-- min(xs, default=d), xs empty -/
theorem min_empty {l : Addr} {d : Value} {Q : Value → Shared → Prop} (hh : A.handled = none) (hl : s.heap.IsList l #[]) (hQ : ∀ h' tk, (∀ b o, s.heap.get? b = some o → h'.get? b = some o) → Q d { s with heap := h', toks := tk }) :
    wpAny (model prog w) A (call (.builtin "min") [.ref l] [(Str.ofString "default", d)]) Q E s := by
  have nm : (toString "min" ++ toString ".loop" : String) = "min.loop" := by decide
  obtain ⟨ol, hol, _⟩ := id hl
  have ll : l < s.heap.objs.size := Heap.lt_size hol
  refine kmk_tree PySem.F.kind_min PySem.F.plain_min PySem.F.entry_min (min_args _ _) ?_
  show wpAny _ A.in1 (Builtin.Builtins.bindParams "min" ["key", "default"] 0 ⟨[], [(Str.ofString "default", d)]⟩ >>= _) _ _ s
  refine wpAny_bind (wpAny_of_eq (show Builtin.Builtins.bindParams "min" ["key", "default"] 0 ⟨[], [(Str.ofString "default", d)]⟩ = pure [none, some d] from rfl) ?_)
  refine wpAny_bind (wpAny_pure ?_)
  refine wpAny_bind (wpAny_pyIter_list hl ?_)
  refine wpAny_bind (wpAny_newList ?_ (Nat.zero_le _))
  rw [nm]
  refine wpAny_pure ⟨plainId_quiet PySem.F.plain_min_loop _, ?_⟩
  refine codeAny_builtin PySem.F.entry_min_loop ?_
  rw [Around.under_plainId PySem.F.plain_min_loop _]
  have W := Walks.list (prog := prog) (w := w) (A := A.in1) hh s.heap.objs.size l (Nat.ne_of_lt ll) #[]
  have sz : (s.heap.push { cls := .type "list_iterator", data := .fields #[.ref l, .int 0 0] }).objs.size = s.heap.objs.size + 1 := size_push' ..
  have gi : ((s.heap.push { cls := .type "list_iterator", data := .fields #[.ref l, .int 0 0] }).push (seqObj "list" #[] 0)).get? s.heap.objs.size = some { cls := .type "list_iterator", data := .fields #[.ref l, .int 0 0] } := Heap.get?_push_of_some _ (Heap.get?_push_size _ rfl)
  have gs : ((s.heap.push { cls := .type "list_iterator", data := .fields #[.ref l, .int 0 0] }).push (seqObj "list" #[] 0)).get? (s.heap.push { cls := .type "list_iterator", data := .fields #[.ref l, .int 0 0] }).objs.size = some (seqObj "list" #[] 0) := Heap.get?_push_size _ rfl
  show wpAny _ A.in1 (seqItems? (.ref _) >>= _) _ _ _
  refine wpAny_bind (wpAny_seqItems gs rfl ?_)
  show wpAny _ A.in1 (tryCatch (pyNext (.ref s.heap.objs.size)) _ >>= _) _ _ _
  have l2 : ((s.heap.push { cls := .type "list_iterator", data := .fields #[.ref l, .int 0 0] }).push (seqObj "list" #[] 0)).IsList l #[] := hl.at fun o e => Heap.get?_push_of_some _ (Heap.get?_push_of_some _ e)
  refine wpAny_bind (wpAny_tryCatch (W.done _ _ _ ⟨⟨_, gi, rfl, rfl⟩, l2⟩ fun h' tk' hk => ?_))
  refine wpAny_bind (wpAny_rule ?_)
  refine wpAny_pure (hQ h' tk' fun b o e => ?_)
  have hb : b ≠ s.heap.objs.size := Nat.ne_of_lt (Heap.lt_size e)
  exact hk b o (by simpa using hb) (Heap.get?_push_of_some _ (Heap.get?_push_of_some _ e))
end
end MnD
namespace DL
open PySem L2
section
variable {p : Par} {X : Cx} {e : Expr} {te : TE} {we : WE} {t : TA} {w : WA} {pos p1 q1 kp : Pos}
def rMinE (K : PySem.W.Frag) : List V → List V → Hp → VK → Prop := fun vs zs H Q => ∃ a, vs = [.ref a] ∧ zs = [.non] ∧ SqL K H a [] ∧ Q .non H
theorem cr_minE (hc : X.calm = true) : CallRK X (.builtin "min") [Str.ofString "default"] (rMinE X.K) := by
  intro pins s σ H vs zs us ws Q I r rz h
  obtain ⟨a, rfl, rfl, hs, q⟩ := h
  obtain rfl := Vals.ref1 r
  obtain ⟨w1, rfl, e1⟩ := vals1 rz
  obtain rfl : w1 = Value.none := e1
  obtain ⟨its, rv, hl, _⟩ := I.list hs
  cases rv
  exact MnD.min_empty (I.ok.hd hc) hl.isList fun h' tk hk => ⟨.non, H, I.kept hk, rfl, q⟩
def wMinE (we : WE) : WE := fun ρ n Q => we ρ n fun d ρ1 n1 => match d with
  | .lst [] => Q .non ρ1 n1
  | _ => False
theorem pd_minE {kk : Nat} (hK : X.K = p.K) (hc : X.calm = true) (hm : X.mg "min" = none) (he : PD p X e te we) (hg : Gl X "min" := by rfl)
    (h1 : starEach [e] X.env = (false, eval e X.env) :: starEach [] X.env := by rfl)
    (h2 : backTo pos (starEach [e] X.env) = (false, eval e X.env) :: backTo pos (starEach [] X.env) := by rfl) (hpl : (backTo pos (starEach [e] X.env)).any (·.1) = false := by rfl)
    (hall : (backToKw pos (keywordEach [⟨some (Str.ofString "default"), .Constant .none kk q1, kp⟩] X.env)).all (·.1.isSome) = true := by rfl) (hnone : (backToKw pos (keywordEach [⟨some (Str.ofString "default"), .Constant .none kk q1, kp⟩] X.env)).any (·.1.isNone) = false := by rfl)
    (hks : (backToKw pos (keywordEach [⟨some (Str.ofString "default"), .Constant .none kk q1, kp⟩] X.env)).filterMap (·.1) = [Str.ofString "default"] := by rfl) :
    PD p X (.Call (.Name "min" p1) [e] [⟨some (Str.ofString "default"), .Constant .none kk q1, kp⟩] pos) (tCKw (rMinE p.K) (tCons te tNil) (tCons (tC .non) tNil)) (wMinE we) := by
  refine ⟨by rw [← hK]; exact pe_callBK (cr_minE hc) hg hm (by decide +kernel) (pa_cons he.pe pa_nil h1) (pk_cons pe_non pk_nil) (by decide) (by decide) h2 hpl hall hnone hks, fun O0 H0 σ H ρ n Q QV S hw k => ?_⟩
  refine he.sim O0 H0 σ H ρ n _ _ S hw fun d ρ1 n1 x H1 q1 S1 r1 x1 => ?_
  split at q1
  · obtain ⟨a, vs, rfl, m1, h1, ra⟩ := r1
    cases ra
    exact ⟨a, rfl, rfl, SqL.of h1, k _ ρ1 n1 _ H1 q1 S1 rfl x1⟩
  · exact q1.elim
def wMaxL (w : WA) : WE := fun ρ n Q => w ρ n fun as ρ1 n1 => match as with
  | [.lst ds] => ∃ ns : List Int, ds = ns.map D.int ∧ 0 < ns.length ∧ ∀ m ∈ ns, (∀ y ∈ ns, y ≤ m) → Q (.int m) ρ1 n1
  | _ => False
theorem pd_maxL (hK : X.K = p.K) (hc : X.calm = true) (hm : X.mg "max" = none) (ha : PDA p X [e] t w) (hg : Gl X "max" := by rfl) (he : starEach [e] X.env = (false, eval e X.env) :: starEach [] X.env := by rfl) (hpl : (backTo pos (starEach [] X.env)).any (·.1) = false := by rfl) :
    PD p X (.Call (.Name "max" p1) [e] [] pos) (tCB (rMax p.K) t) (wMaxL w) := by
  refine ⟨by rw [← hK]; exact pe_callB (cr_max hc) hg hm (by decide +kernel) ha.pa (by decide) (by decide) he hpl, fun O0 H0 σ H ρ n Q QV S hw k => ?_⟩
  refine ha.sim O0 H0 σ H ρ n _ _ S hw fun as ρ1 n1 vs H1 q1 S1 r1 x1 => ?_
  split at q1
  · obtain ⟨ns, rfl, h0, q⟩ := q1
    obtain ⟨v, rfl, rv⟩ := rpl1 r1
    obtain ⟨a, xs, rfl, m1, h1, ra⟩ := rv
    have e3 := RpL.mapI ra
    subst e3
    exact ⟨a, ns, rfl, SqL.of h1, h0, fun m hm1 hm2 => k _ ρ1 n1 _ H1 (q m hm1 hm2) S1 rfl x1⟩
  · exact q1.elim
/-- what isinstance asks of the own classes os -/
structure IsiO (p : Par) (os : List String) : Prop where
  ins : ∀ c ∈ os, ∃ C, p.cls c = some C ∧ C8.InsC p.K C ∧ PySem.W.isClsIn p.K C = true ∧ PySem.W.typeIn p.K (.ref C) = some (.type "type")
  sub : ∀ c ∈ os, ∀ c' ∈ os, ∀ C C', p.cls c = some C → p.cls c' = some C' → PySem.W.kitOne p.K (.ref C') (.ref C) = some (c' == c)
def gIsiO (os : List String) : List D → Option D
  | [.obj c' _ _, .cls c] => if c ∈ os ∧ c' ∈ os then some (.bl (c' == c)) else none
  | [d, .cls c] => if c ∈ os ∧ (tyD d).isSome = true then some (.bl false) else none
  | _ => none
theorem fast_of {a : String} {d : D} (h : tyD d = some a) : ∃ l, fastBuiltinMro a = some l ∧ ∀ C : Addr, l.contains (.ref C) = false := by
  have key : ∀ a ∈ ["NoneType", "bool", "int", "str", "tuple", "list", "dict"], ∃ l : List String, fastBuiltinMro a = some (l.map Value.type) := by
    intro a ha
    simp only [List.mem_cons, List.not_mem_nil, or_false] at ha
    rcases ha with e | e | e | e | e | e | e <;> subst e
    · exact ⟨["NoneType", "object"], by decide +kernel⟩
    · exact ⟨["bool", "int", "object"], by decide +kernel⟩
    · exact ⟨["int", "object"], by decide +kernel⟩
    · exact ⟨["str", "object"], by decide +kernel⟩
    · exact ⟨["tuple", "object"], by decide +kernel⟩
    · exact ⟨["list", "object"], by decide +kernel⟩
    · exact ⟨["dict", "object"], by decide +kernel⟩
  have ha : a ∈ ["NoneType", "bool", "int", "str", "tuple", "list", "dict"] := by
    cases d <;> cases h <;> simp
  obtain ⟨l, e⟩ := key a ha
  refine ⟨_, e, fun C => ?_⟩
  rw [Bool.eq_false_iff]
  intro z
  rw [List.contains_iff_mem] at z
  obtain ⟨t, _, e2⟩ := List.mem_map.mp z
  cases e2
theorem kit_cls {K : PySem.W.Frag} {C : Addr} {a : String} {d : D} (h : tyD d = some a) (h1 : PySem.W.isClsIn K C = true) (h2 : PySem.W.typeIn K (.ref C) = some (.type "type")) : PySem.W.kitOne K (.type a) (.ref C) = some false := by
  obtain ⟨l, e, hl⟩ := fast_of h
  unfold PySem.W.kitOne
  rw [if_neg (by intro z; cases eq_of_beq z)]
  show (if ((PySem.W.clsIn K C).isSome && PySem.W.typeIn K (.ref C) == some (.type "type")) = true then PySem.W.subIn K (.type a) (.ref C) else none) = some false
  rw [if_pos (by rw [h2]; simpa [PySem.W.isClsIn] using h1)]
  show (fastBuiltinMro a).map (·.contains (.ref C)) = some false
  rw [e]
  show some (l.contains (.ref C)) = some false
  rw [hl C]
theorem opc_isiO {os : List String} (I : IsiO p os) : OpC p (rIsi p.K) (gIsiO os) := by
  intro O0 H0 σ H ρ n xs as d QV S r hg k
  unfold gIsiO at hg
  split at hg
  · split at hg
    · rename_i c' ns ds c hc
      cases hg
      obtain ⟨x, y, rfl, rx, ry⟩ := rpl2 r
      obtain ⟨C, rfl, eC⟩ := ry
      obtain ⟨a, C', dx, fs, rfl, m1, h1, hc', en, rl⟩ := rx
      obtain ⟨D, e1, J, _⟩ := I.ins c' hc.2
      rw [hc'] at e1; cases e1
      exact ⟨_, _, _, _, _, rfl, .own C, .base (.ins h1 J.cl J.ha J.hn J.htk J.hm), I.sub c hc.1 c' hc.2 C C' eC hc', k _ H S rfl Ext.refl⟩
    · cases hg
  · split at hg
    · rename_i d0 c _ hc
      cases hg
      obtain ⟨a, ea⟩ := Option.isSome_iff_exists.mp hc.2
      obtain ⟨x, y, rfl, rx, ry⟩ := rpl2 r
      obtain ⟨C, rfl, eC⟩ := ry
      obtain ⟨C', e1, _, h2, h3⟩ := I.ins c hc.1
      rw [eC] at e1; cases e1
      exact ⟨x, _, _, _, _, rfl, .own C, tyX_of rx ea, kit_cls ea h2 h3, k _ H S rfl Ext.refl⟩
    · cases hg
  · cases hg
end
/-- two texts -/
def gEqS : D → D → Option D
  | .str s, .str t => some (.bl (decide (s = t)))
  | _, _ => none
theorem op2_eqS {p : Par} : Op2 p rEq gEqS := by
  intro O0 H0 σ H ρ n x y a b d QV S ra rb hg k
  unfold gEqS at hg
  split at hg
  · rename_i s t
    cases hg
    rw [show x = V.str s from ra, show y = V.str t from rb]
    refine ⟨rfl, ?_⟩
    have e : decide (V.str s = V.str t) = decide (s = t) := by
      rw [Bool.eq_iff_iff]
      simp
    rw [e]
    exact k _ H S rfl Ext.refl
  · cases hg
end DL
end
section
namespace DL
open PySem L2 StX
open PyProof.Rows (envOfC)

abbrev RX := String → List D → Sl → Nat → Prop
abbrev RXF := String → List D → Nat → Prop
abbrev WFX := List D → Nat → (D → Nat → Prop) → RXF → Prop
abbrev WEX := RX → WE
/-- nothing is raised -/
def rx0 : RXF := fun _ _ _ => False
/-- what is wanted of an exception, from what is wanted of the data -/
def XR (p : Par) (O0 : Addr → Prop) (H0 : Hp) (gs : List Nat) (σ : St) (O : Addr → Prop) (H : Hp) (r : RX) (W : WX) : Prop :=
  ∀ c C σ' H' ρ' n', r c [] ρ' n' → p.cls c = some C → StR p O0 H0 σ' H' ρ' n' → Ext p O0 O H (Own O0 σ' ρ') H' → Only gs σ σ' → W (.ref C) none σ' H'
theorem XR.after {p : Par} {O0 : Addr → Prop} {H0 : Hp} {gs hs is : List Nat} {σ σ1 : St} {O O1 : Addr → Prop} {H H1 : Hp} {r : RX} {W : WX} (k : XR p O0 H0 gs σ O H r W) (x : Ext p O0 O H O1 H1) (o : Only hs σ σ1) (h1 : ∀ i ∈ hs, i ∈ gs) (h2 : ∀ i ∈ is, i ∈ gs) : XR p O0 H0 is σ1 O1 H1 r W :=
  fun c C σ' H' ρ' n' a b s y z => k c C σ' H' ρ' n' a b s (x.trans y) ((o.mono h1).same (z.mono h2))
theorem XR.at {p : Par} {O0 : Addr → Prop} {H0 : Hp} {gs is : List Nat} {σ : St} {O O1 : Addr → Prop} {H H1 : Hp} {r : RX} {W : WX} (k : XR p O0 H0 gs σ O H r W) (x : Ext p O0 O H O1 H1) (h : ∀ i ∈ is, i ∈ gs) : XR p O0 H0 is σ O1 H1 r W :=
  k.after x (hs := []) Only.refl no_mem h

def SimEX (p : Par) (W : WX) (t : TE) (w : WEX) : Prop := ∀ (O0 : Addr → Prop) (H0 : Hp) (σ : St) (H : Hp) (ρ : Sl) (n : Nat) (r : RX) (Q : WQ) (QV : VK), StR p O0 H0 σ H ρ n → w r ρ n Q →
  (∀ d ρ' n' v H', Q d ρ' n' → StR p O0 H0 σ H' ρ' n' → Rp p (Own O0 σ ρ') H' d v → Ext p O0 (Own O0 σ ρ) H (Own O0 σ ρ') H' → QV v H') → XR p O0 H0 [] σ (Own O0 σ ρ) H r W → t σ H QV
def SimSX (p : Par) (W : WX) (gs : List Nat) (t : TS) (w : WS) : Prop := ∀ (O0 : Addr → Prop) (H0 : Hp) (σ : St) (H : Hp) (ρ : Sl) (n : Nat) (q : EndsD) (E : Ends), StR p O0 H0 σ H ρ n → w q ρ n →
  EndsR p O0 H0 gs σ (Own O0 σ ρ) H q E → XR p O0 H0 gs σ (Own O0 σ ρ) H q.xc W → t E σ H
structure PDX (p : Par) (X : Cx) (W : WX) (e : Expr) (t : TE) (w : WEX) : Prop where
  pe : PE X e t
  sim : SimEX p W t w
structure PDSX (p : Par) (X : Cx) (W : WX) (st : Stmt) (gs : List Nat) (t : TS) (w : WS) : Prop where
  ps : PS X st t
  sim : SimSX p W gs t w
structure PDBX (p : Par) (X : Cx) (W : WX) (st : List Stmt) (gs : List Nat) (t : TS) (w : WS) : Prop where
  ps : PSs X st t
  sim : SimSX p W gs t w
section
variable {p : Par} {X : Cx} {W : WX} {st : Stmt} {rest a b : List Stmt} {gs hs : List Nat} {t u : TS} {w z : WS} {e c e1 e2 : Expr} {te : TE} {we : WE} {wx : WEX} {pos p1 : Pos}
theorem SimE.x (h : SimE p te we) : SimEX p W te (fun _ => we) := fun O0 H0 σ H ρ n _ Q QV S hw k _ => h O0 H0 σ H ρ n Q QV S hw k
theorem SimS.x (h : SimS p gs t w) : SimSX p W gs t w := fun O0 H0 σ H ρ n q E S hw r _ => h O0 H0 σ H ρ n q E S hw r
theorem PD.x (h : PD p X e te we) : PDX p X W e te (fun _ => we) := ⟨h.pe, h.sim.x⟩
theorem PDS.x (h : PDS p X st gs t w) : PDSX p X W st gs t w := ⟨h.ps, h.sim.x⟩
theorem PDB.x (h : PDB p X a gs t w) : PDBX p X W a gs t w := ⟨h.ps, h.sim.x⟩
theorem sim_seqX (h1 : SimSX p W gs t w) (h2 : SimSX p W hs u z) : SimSX p W (gs ++ hs) (tSeq t u) (wSeq w z) := by
  intro O0 H0 σ H ρ n q E S hw r k
  refine h1 O0 H0 σ H ρ n _ _ S hw ⟨fun σ' H' ρ' n' a s x o => ?_, fun σ' H' ρ' n' a s x o => r.bk σ' H' ρ' n' a s x (o.mono mem_l), fun σ' H' ρ' n' a s x o => r.ct σ' H' ρ' n' a s x (o.mono mem_l), r.rt⟩ (k.at Ext.refl mem_l)
  exact h2 O0 H0 σ' H' ρ' n' q E s a (r.after x o mem_l mem_r) (k.after x o mem_l mem_r)
theorem pdbx_cons (h1 : PDSX p X W st gs t w) (h2 : PDBX p X W rest hs u z) : PDBX p X W (st :: rest) (gs ++ hs) (tSeq t u) (wSeq w z) := ⟨pss_cons h1.ps h2.ps, sim_seqX h1.sim h2.sim⟩
theorem pdbx_one (h1 : PDSX p X W st gs t w) : PDBX p X W [st] gs t w := ⟨pss_one h1.ps, h1.sim⟩
theorem pdbx_nil : PDBX p X W [] [] tNext wSkip := PDB.x pdb_nil
theorem pdsx_if {tc : TT} {wc : WT} (hc : PDT p X c tc wc) (ha : PDBX p X W a gs t w) (hb : PDBX p X W b hs u z) : PDSX p X W (.If c a b pos) (gs ++ hs) (tIfS tc t u) (wIfS wc w z) := by
  refine ⟨ps_if hc.pt ha.ps hb.ps, fun O0 H0 σ H ρ n q E S hw r k => ?_⟩
  refine hc.sim O0 H0 σ H ρ n _ _ S hw fun c ρ1 n1 H1 q1 S1 x1 => ?_
  cases c with
  | true => exact ha.sim O0 H0 σ H1 ρ1 n1 q E S1 q1 (r.at x1 mem_l) (k.at x1 mem_l)
  | false => exact hb.sim O0 H0 σ H1 ρ1 n1 q E S1 q1 (r.at x1 mem_r) (k.at x1 mem_r)
/-- return e, e may raise -/
def wRetX (we : WEX) : WS := fun q ρ n => we q.xc ρ n fun d _ n1 => q.rt d n1
theorem pdsx_ret (he : PDX p X W e te wx) : PDSX p X W (.Return (some e) pos) [] (tRet te) (wRetX wx) :=
  ⟨ps_ret he.pe, fun O0 H0 σ H ρ n q E S hw r k => he.sim O0 H0 σ H ρ n _ _ _ S hw (fun d ρ1 n1 v H1 q1 S1 rv x1 => r.rt d n1 v H1 q1 S1.keep S1.at_ (Rp.gr (gr_own fun a o _ z => .inl z) d v rv)) k⟩
def wExprX (we : WEX) : WS := fun q ρ n => we q.xc ρ n fun _ ρ1 n1 => q.nx ρ1 n1
theorem pdsx_expr (he : PDX p X W e te wx) (hsw : swapsWith e none pos.line X.env = pure false := by rfl) : PDSX p X W (.Expr e pos) [] (tDrop te) (wExprX wx) :=
  ⟨ps_expr he.pe hsw, fun O0 H0 σ H ρ n q E S hw r k => he.sim O0 H0 σ H ρ n _ _ _ S hw (fun d ρ1 n1 v H1 q1 S1 _ x1 => r.nx σ H1 ρ1 n1 q1 S1 x1 Only.refl) k⟩
def wAsgX (we : WEX) (wg : WG) : WS := fun q ρ n => we q.xc ρ n fun d ρ1 n1 => wg d ρ1 n1 q.nx
theorem sim_asgX {g : TG} {wg : WG} (he : SimEX p W te wx) (hg : SimG p gs g wg) : SimSX p W gs (tAsg te g) (wAsgX wx wg) := by
  intro O0 H0 σ H ρ n q E S hw r k
  refine he O0 H0 σ H ρ n _ _ _ S hw (fun d ρ1 n1 v H1 q1 S1 rv x1 => ?_) (k.at Ext.refl no_mem)
  exact hg O0 H0 σ H1 ρ1 n1 d v _ _ S1 rv q1 fun σ2 ρ2 n2 q2 S2 o2 x2 => r.nx σ2 H1 ρ2 n2 q2 S2 (x1.trans x2) o2
theorem pdsx_set (i : Nat) {x : Str} {pos' : Pos} (hN : X.N.Nodup) (he : PDX p X W e te wx) (hi : X.N[i]? = some x := by rfl) (hx : Loc X.env.scope x := by first | exact Or.inl rfl | exact Or.inr rfl) (hsw : swapsWith e (some (.Name x pos')) pos.line X.env = pure false := by rfl)
    (hf : X.fn x = true ∨ X.env.scope.names.lookup x = some .local := by first | exact .inl rfl | exact .inr rfl | assumption) : PDSX p X W (.Assign [.Name x pos'] e pos) [i] (tAsg te (gName i)) (wAsgX wx (wName i)) := ⟨ps_set hN hi hx he.pe hsw hf, sim_asgX he.sim (sim_name i)⟩
/-- a if c else b, both may raise -/
def wIfX (wc : WT) (wa wb : WEX) : WEX := fun r ρ n Q => wc ρ n fun c ρ1 n1 => if c = true then wa r ρ1 n1 Q else wb r ρ1 n1 Q
theorem pdx_if {tA : TT} {vA : WT} {ta tb : TE} {wa wb : WEX} (hc : PDT p X c tA vA) (ha : PDX p X W e1 ta wa) (hb : PDX p X W e2 tb wb) : PDX p X W (.IfExp c e1 e2 pos) (tIf tA ta tb) (wIfX vA wa wb) := by
  refine ⟨pe_ifExp hc.pt ha.pe hb.pe, fun O0 H0 σ H ρ n r Q QV S hw k kx => ?_⟩
  refine hc.sim O0 H0 σ H ρ n _ _ S hw fun c ρ1 n1 H1 q1 S1 x1 => ?_
  cases c with
  | true => exact iteT (ha.sim O0 H0 σ H1 ρ1 n1 r _ _ S1 (by simpa using q1) (fun d2 ρ2 n2 y H2 q2 S2 r2 x2 => k d2 ρ2 n2 y H2 q2 S2 r2 (x1.trans x2)) (kx.at x1 no_mem))
  | false => exact iteF (hb.sim O0 H0 σ H1 ρ1 n1 r _ _ S1 (by simpa using q1) (fun d2 ρ2 n2 y H2 q2 S2 r2 x2 => k d2 ρ2 n2 y H2 q2 S2 r2 (x1.trans x2)) (kx.at x1 no_mem))
end

def spX (p : Par) (N : Nat) (w : WFX) : Sp := fun vs H Q E => ∃ (O0 : Addr → Prop) (ds : List D) (n : Nat) (q : D → Nat → Prop) (r : RXF), (∀ a, O0 a → ∃ o, H a = some o) ∧ (∀ a, p.dk a → O0 a) ∧ p.At n H ∧ RpL p O0 H ds vs ∧ ds.length = N ∧ w ds n q r ∧
  (∀ d n' v H', q d n' → (∀ a o, ¬ p.dk a → H a = some o → H' a = some o) → p.At n' H' → Rp p O0 H' d v → Q v H') ∧
  ∀ c C n' H', r c [] n' → p.cls c = some C → (∀ a o, ¬ p.dk a → H a = some o → H' a = some o) → p.At n' H' → E (.ref C) none H'
def spIX (p : Par) (N : Nat) (C : Addr) (w : WFX) : Sp := fun vs H Q E => ∃ (O0 : Addr → Prop) (a dx : Addr) (ds : List D) (us : List V) (n : Nat) (q : D → Nat → Prop) (r : RXF), vs = .ref a :: us ∧ H a = some (.ins C dx []) ∧ ¬ O0 a ∧ (∀ b, O0 b → ∃ o, H b = some o) ∧ (∀ b, p.dk b → O0 b) ∧ p.At n H ∧
  RpL p (And1 O0 a) H ds us ∧ ds.length = N ∧ w ds n q r ∧ (∀ d n' H', q d n' → (∀ b o, b ≠ a → ¬ p.dk b → H b = some o → H' b = some o) → p.At n' H' → Rp p O0 H' d (.ref a) → Q .non H') ∧
  ∀ c C' n' H', r c [] n' → p.cls c = some C' → (∀ b o, b ≠ a → ¬ p.dk b → H b = some o → H' b = some o) → p.At n' H' → E (.ref C') none H'
/-- where nothing is raised -/
def noX (w : WFX) : WF := fun ds n q => w ds n q rx0
theorem spX_of {p : Par} {N : Nat} {w : WFX} {vs : List V} {H : Hp} {Q : VK} {E E' : XK} (h : spW p N (noX w) vs H Q E) : spX p N w vs H Q E' := by
  obtain ⟨O0, ds, n, q, th, hdk, at', r, hl, hw, fin⟩ := h
  exact ⟨O0, ds, n, q, rx0, th, hdk, at', r, hl, hw, fin, fun _ _ _ _ z => z.elim⟩
theorem spIX_of {p : Par} {N : Nat} {C : Addr} {w : WFX} {vs : List V} {H : Hp} {Q : VK} {E E' : XK} (h : spI p N C (noX w) vs H Q E) : spIX p N C w vs H Q E' := by
  obtain ⟨O0, a, dx, ds, us, n, q, e, ha, na, th, hdk, at', r, hl, hw, fin⟩ := h
  exact ⟨O0, a, dx, ds, us, n, q, rx0, e, ha, na, th, hdk, at', r, hl, hw, fin, fun _ _ _ _ z => z.elim⟩
section
variable {P : Program} {w : World} {K : PySem.W.Frag} {mg : Str → Option Value} {base : Heap} {p : Par} {k : Nat} {f : Addr} {fd : FuncData} {ps : List Str} {sp sp' : Sp}
theorem CX_E0 {outer : List PySem.Env} {H : Hp} {s s' : Shared} {e : Value} (h : L2.CX P w outer H s E0 e s') : False := by
  obtain ⟨_, _, _, _, _, _, _, _, _, _, _, _, z⟩ := h
  exact z
theorem cx0R (F : FnR P w K mg base (L2.CX P w) k f sp) (h : ∀ vs H Q E, sp' vs H Q E → sp vs H Q E0) : FnR P w K mg base CX0 k f sp' := fun A outer s H us vs Q E hr e0 r hs => by
  refine codeAny_mono (F A outer s H us vs Q E0 hr e0 r (h _ _ _ _ hs)) fun r' s' hq => ?_
  cases r' with
  | error e => exact (CX_E0 hq).elim
  | ok fl => cases fl <;> exact hq
theorem cx0F (F : FnOk P w K mg base (L2.CX P w) k f fd ps sp) (h : ∀ vs H Q E, sp' vs H Q E → sp vs H Q E0) : FnOk P w K mg base CX0 k f fd ps sp' := ⟨fun vs H Q E q => F.len vs H Q E0 (h _ _ _ _ q), fun A outer s H args us vs Q E hr he hb hv hs => by
  refine codeAny_mono (F.run A outer s H args us vs Q E0 hr he hb hv (h _ _ _ _ hs)) fun r' s' hq => ?_
  cases r' with
  | error e => exact (CX_E0 hq).elim
  | ok fl => cases fl <;> exact hq⟩
/-- a def's own way out -/
abbrev wOut (E : XK) : WX := fun cls d _ H => E cls d H
theorem fnX {x qual : Str} {st : Stmt} {Ns : List Str} {wf : WFX} (N : Nat) (F : Fun K x qual st f fd) (S : FnScope Ns ps (defScope st)) (hN : N = ps.length)
    (hb : ∀ (cdv : Value) (A : Around) (outer : List PySem.Env) (s : Shared) (H : Hp) (E : XK), Room k (A.deeper (envOfC qual (defScope st) s.heap.objs.size f cdv)) →
      ∃ gs t W, PDBX p (cxOf (L2.CX P w) P w K mg base Ns qual (defScope st) f cdv A outer s H E) (wOut E) (defBody st) gs t W ∧ ∀ ds n q r, ds.length = N → wf ds n q r → W { nx := fun _ n => q .non n, rt := q, xc := fun c ds _ n => r c ds n } (slots0 ds (Ns.length - N)) n) :
    FnOk P w K mg base (L2.CX P w) (k + 1) f fd ps (spX p N wf) := by
  refine F.okX S (fun vs H Q E h => ?_) (fun cdv A outer s H vs Q E hr h => ?_)
  · obtain ⟨O0, ds, n, q, r, _, _, _, rl, hl, _⟩ := h
    rw [← rl.length, hl, hN]
  · obtain ⟨gs, t, W, pb, hW⟩ := hb cdv A outer s H E hr
    obtain ⟨O0, ds, n, q, r, th, hdk, at', rl, hl, hw, fin, finx⟩ := h
    refine ⟨t, pb.ps, pb.sim O0 H _ H _ n _ _ (stR_start th hdk at' rl hl ?_) (hW ds n q r hl hw) ⟨fun σ' H' ρ' n' a s _ _ => fin .non n' _ H' a s.keep s.at_ rfl, fun _ _ _ _ a => a.elim, fun _ _ _ _ a => a.elim, fun d n' v H' a kp at2 rv => fin d n' v H' a kp at2 rv⟩ fun c C σ' H' ρ' n' a b s _ _ => finx c C n' H' a b s.keep s.at_⟩
    have := congrArg List.length S.pre
    rw [List.length_take] at this
    omega
/-- a promise from the body where there is a star parameter -/
theorem fnStarX {x qual pv : Str} {st : Stmt} {Ns : List Str} (F : Fun K x qual st f fd) (S : FnScope Ns (ps ++ [pv]) (defScope st))
    (hbd : ∀ (kV doc pm : Value) (an : Option Addr) (cdv ct : Value) (us rest : List Value), us.length = ps.length → bindArgs (PySem.W.fnOf x qual (defArgs st) (defBody st) (defScope st) .none kV doc pm an cdv ct) ⟨us ++ rest, []⟩ = (newTuple rest >>= fun t => pure (ps.zip us ++ [(pv, t)])))
    (ok : ∀ (cdv : Value) (A : Around) (outer : List PySem.Env) (s : Shared) (H : Hp) (vs : List V) (Q : VK) (E : XK), Room k (A.deeper (envOfC qual (defScope st) s.heap.objs.size f cdv)) → sp vs H Q E →
      ∃ t, PSs (cxOf (L2.CX P w) P w K mg base Ns qual (defScope st) f cdv A outer s H E) (defBody st) t ∧ t { nx := fun _ H' => Q .non H', rt := Q } (L2.start Ns vs) H) :
    FnR P w K mg base (L2.CX P w) (k + 1) f (spS ps.length sp) := by
  obtain ⟨oc, od, kV, doc, pm, an, cdv, ct, osl, rfl, lk, hcd⟩ := F.ex
  exact fn_star lk hcd S cxUp (hbd kV doc pm an cdv ct) fun A outer s H vs Q E hr hsp => ok cdv A outer s H vs Q E hr hsp
theorem fnSX {x qual pv : Str} {st : Stmt} {Ns : List Str} {wf : WFX} (F : Fun K x qual st f fd) (S : FnScope Ns (ps ++ [pv]) (defScope st))
    (hbd : ∀ (kV doc pm : Value) (an : Option Addr) (cdv ct : Value) (us rest : List Value), us.length = ps.length → bindArgs (PySem.W.fnOf x qual (defArgs st) (defBody st) (defScope st) .none kV doc pm an cdv ct) ⟨us ++ rest, []⟩ = (newTuple rest >>= fun t => pure (ps.zip us ++ [(pv, t)])))
    (hb : ∀ (cdv : Value) (A : Around) (outer : List PySem.Env) (s : Shared) (H : Hp) (E : XK), Room k (A.deeper (envOfC qual (defScope st) s.heap.objs.size f cdv)) →
      ∃ gs t W, PDBX p (cxOf (L2.CX P w) P w K mg base Ns qual (defScope st) f cdv A outer s H E) (wOut E) (defBody st) gs t W ∧ ∀ ds n q r, ds.length = ps.length + 1 → wf ds n q r → W { nx := fun _ n => q .non n, rt := q, xc := fun c ds _ n => r c ds n } (slots0 ds (Ns.length - (ps.length + 1))) n) :
    FnR P w K mg base (L2.CX P w) (k + 1) f (spS ps.length (spX p (ps.length + 1) wf)) := by
  refine fnStarX F S hbd fun cdv A outer s H vs Q E hr h => ?_
  obtain ⟨gs, t, W, pb, hW⟩ := hb cdv A outer s H E hr
  obtain ⟨O0, ds, n, q, r, th, hdk, at', rl, hl, hw, fin, finx⟩ := h
  refine ⟨t, pb.ps, pb.sim O0 H _ H _ n _ _ (stR_start th hdk at' rl hl ?_) (hW ds n q r hl hw) ⟨fun σ' H' ρ' n' a s _ _ => fin .non n' _ H' a s.keep s.at_ rfl, fun _ _ _ _ a => a.elim, fun _ _ _ _ a => a.elim, fun d n' v H' a kp at2 rv => fin d n' v H' a kp at2 rv⟩ fun c C σ' H' ρ' n' a b s _ _ => finx c C n' H' a b s.keep s.at_⟩
  have e := congrArg List.length S.pre
  rw [List.length_take, List.length_append] at e
  simp at e
  omega
theorem bodyIX {qual : Str} {st : Stmt} {C : Addr} {Ns : List Str} {wi : WFX} {N : Nat} {cdv : Value} {A : Around} {outer : List PySem.Env} {s : Shared} {H : Hp} {vs : List V} {Q : VK} {E : XK} (c : String) (cp : ClsP p c C) (S : FnScope Ns ps (defScope st)) (hN : N + 1 = ps.length)
    (hb : ∃ gs t W, PDBX p (cxOf (L2.CX P w) P w K mg base Ns qual (defScope st) f cdv A outer s H E) (wOut E) (defBody st) gs t W ∧ 0 ∉ gs ∧ ∀ ds n q r, ds.length = N → wi ds n q r → W { nx := fun ρ n => ∃ d, (ρ[0]? = some (.val d) ∨ ρ[0]? = some (.own d)) ∧ q d n, rt := fun _ _ => False, xc := fun c ds _ n => r c ds n } (.own (.obj c [] []) :: slots0 ds (Ns.length - (N + 1))) n)
    (h : spIX p N C wi vs H Q E) : ∃ t, PSs (cxOf (L2.CX P w) P w K mg base Ns qual (defScope st) f cdv A outer s H E) (defBody st) t ∧ t { nx := fun _ H' => Q .non H', rt := Q } (L2.start Ns vs) H := by
  obtain ⟨gs, t, W, pb, h0, hW⟩ := hb
  obtain ⟨O0, a, dx, ds, us, n, q, rX, rfl, ha, na, th, hdk, at', r, hl, hw, fin, finx⟩ := h
  have hNs : N + 1 ≤ Ns.length := by
    have := congrArg List.length S.pre
    rw [List.length_take] at this
    omega
  let H1 : Hp := fun b => if b = a then none else H b
  have h1 : ∀ b o, H1 b = some o → H b = some o ∧ b ≠ a := fun b o e => by
    by_cases c : b = a
    · rw [show H1 b = none from if_pos c] at e; cases e
    · rw [show H1 b = H b from if_neg c] at e; exact ⟨e, c⟩
  have eS : L2.start Ns (.ref a :: us) = some (.ref a) :: (us.map some ++ List.replicate (Ns.length - (us.length + 1)) none) := rfl
  have own : ∀ b, Own O0 (L2.start Ns (.ref a :: us)) (.own (.obj c [] []) :: slots0 ds (Ns.length - (N + 1))) b → And1 O0 a b := fun b z => by
    rcases z with z | ⟨i, d, e1, e2⟩
    · exact .inl z
    · cases i with
      | zero => rw [eS] at e2; cases e2; exact .inr rfl
      | succ i => exact absurd (by simpa using e1) (slots_own (ds := ds) (k := Ns.length - (N + 1)) (i := i) (d := d))
  have g : Gr (And1 O0 a) H (Own O0 (L2.start Ns (.ref a :: us)) (.own (.obj c [] []) :: slots0 ds (Ns.length - (N + 1)))) H := fun b o no e => ⟨fun z => no (own b z), e⟩
  have S0 : StR p O0 H1 (L2.start Ns (.ref a :: us)) H (.own (.obj c [] []) :: slots0 ds (Ns.length - (N + 1))) n := by
    refine ⟨?_, fun i d e => ?_, fun i d e => ?_, fun i j d e b h1 h2 _ _ => ?_, fun b o _ e => (h1 b o e).1, th, hdk, at'⟩
    · have := r.length
      unfold L2.start slots0
      simp
      omega
    · cases i with
      | zero => cases e
      | succ i =>
        obtain ⟨v, e1, rv⟩ := r.get (slots_val (by simpa using e))
        exact ⟨v, start_get (vs := .ref a :: us) (i := i + 1) (by simpa using e1), Rp.gr g d v rv⟩
    · cases i with
      | zero =>
        cases e
        exact ⟨a, by rw [eS]; rfl, ⟨C, dx, [], ha, cp.at_, rfl, rfl⟩, na, if_pos rfl⟩
      | succ i => exact absurd (by simpa using e) (slots_own (ds := ds) (k := Ns.length - (N + 1)) (i := i) (d := d))
    · cases i with
      | zero => cases j with
        | zero => rfl
        | succ j => exact absurd (by simpa using h2) (slots_own (ds := ds) (k := Ns.length - (N + 1)) (i := j) (d := e))
      | succ i => exact absurd (by simpa using h1) (slots_own (ds := ds) (k := Ns.length - (N + 1)) (i := i) (d := d))
  refine ⟨t, pb.ps, pb.sim O0 H1 _ H _ n _ _ S0 (hW ds n q rX hl hw) ⟨fun σ' H' ρ' n' z s' _ o => ?_, fun _ _ _ _ z => z.elim, fun _ _ _ _ z => z.elim, fun _ _ _ _ z => z.elim⟩ fun c1 C1 σ' H' ρ' n' z hc s' _ _ => finx c1 C1 n' H' z hc (fun b o ne nd e => s'.keep b o nd (by rw [show H1 b = H b from if_neg ne]; exact e)) s'.at_⟩
  obtain ⟨d, hd, qd⟩ := z
  have e0 : σ'[0]? = some (some (.ref a)) := by rw [o.2 0 h0, eS]; rfl
  have kp : ∀ b o, b ≠ a → ¬ p.dk b → H b = some o → H' b = some o := fun b o ne nd e => s'.keep b o nd (by rw [show H1 b = H b from if_neg ne]; exact e)
  rcases hd with hd | hd
  · obtain ⟨v, e1, rv⟩ := s'.val 0 d hd
    rw [e0] at e1; cases e1
    exact fin d n' H' qd kp s'.at_ (Rp.gr (gr_own fun b o _ z => .inl z) _ _ rv)
  · obtain ⟨b, e1, S2, rv, _⟩ := s'.letgo hd
    rw [e0] at e1; cases e1
    exact fin d n' H' qd kp s'.at_ (Rp.gr (gr_own fun b o _ z => .inl z) _ _ rv)

theorem fnISX {x qual pv : Str} {st : Stmt} {C : Addr} {Ns : List Str} {wi : WFX} (m : Nat) (c : String) (cp : ClsP p c C) (F : Fun K x qual st f fd) (S : FnScope Ns (ps ++ [pv]) (defScope st)) (hm : m + 1 = ps.length)
    (hbd : ∀ (kV doc pm : Value) (an : Option Addr) (cdv ct : Value) (us rest : List Value), us.length = ps.length → bindArgs (PySem.W.fnOf x qual (defArgs st) (defBody st) (defScope st) .none kV doc pm an cdv ct) ⟨us ++ rest, []⟩ = (newTuple rest >>= fun t => pure (ps.zip us ++ [(pv, t)])))
    (hb : ∀ (cdv : Value) (A : Around) (outer : List PySem.Env) (s : Shared) (H : Hp) (E : XK), Room k (A.deeper (envOfC qual (defScope st) s.heap.objs.size f cdv)) →
      ∃ gs t W, PDBX p (cxOf (L2.CX P w) P w K mg base Ns qual (defScope st) f cdv A outer s H E) (wOut E) (defBody st) gs t W ∧ 0 ∉ gs ∧ ∀ ds n q r, ds.length = m + 1 → wi ds n q r → W { nx := fun ρ n => ∃ d, (ρ[0]? = some (.val d) ∨ ρ[0]? = some (.own d)) ∧ q d n, rt := fun _ _ => False, xc := fun c ds _ n => r c ds n } (.own (.obj c [] []) :: slots0 ds (Ns.length - (m + 2))) n) :
    FnR P w K mg base (L2.CX P w) (k + 1) f (spS (m + 1) (spIX p (m + 1) C wi)) := by
  rw [hm]
  exact fnStarX F S hbd fun cdv A outer s H vs Q E hr h => bodyIX (N := ps.length) c cp S (by simp) (by rw [← hm]; exact hb cdv A outer s H E hr) h
end

structure GfX (P : Program) (w : World) (K : PySem.W.Frag) (mg : Str → Option Value) (base : Heap) (p : Par) (x : Str) (k N : Nat) (wf : WFX) : Prop where
  ex : ∃ (f : Addr) (fd : FuncData) (ps : List Str), FnOk P w K mg base (L2.CX P w) k f fd ps (spX p N wf) ∧ mg x = some (.ref f) ∧ PySem.W.keepIn K (.ref f) = true ∧ Binds K fd ps []
structure GisX (P : Program) (w : World) (K : PySem.W.Frag) (mg : Str → Option Value) (base : Heap) (p : Par) (C : Addr) (x : Str) (k m : Nat) (wi : WFX) : Prop where
  ex : ∃ (f : Addr), FnR P w K mg base (L2.CX P w) k f (spS (m + 1) (spIX p (m + 1) C wi)) ∧ Mk K C f ∧ mg x = some (.ref C)
structure GmsX (P : Program) (w : World) (K : PySem.W.Frag) (mg : Str → Option Value) (base : Heap) (p : Par) (C : Addr) (x : Str) (k m : Nat) (wf : WFX) : Prop where
  ex : ∃ (f : Addr), FnR P w K mg base (L2.CX P w) k f (spS m (spX p (m + 1) wf)) ∧ Meth K C x f
theorem spS_imp {m : Nat} {sp sp' : Sp} {vs : List V} {H : Hp} {Q : VK} {E E' : XK} (h : spS m sp vs H Q E) (k : ∀ vs H, sp vs H Q E → sp' vs H Q E') : spS m sp' vs H Q E' := by
  obtain ⟨ws, rest, e, hl, hz, hq⟩ := h
  exact ⟨ws, rest, e, hl, hz, fun q hq' => k _ _ (hq q hq')⟩
section
variable {P : Program} {w : World} {K : PySem.W.Frag} {mg : Str → Option Value} {base : Heap} {p : Par} {k m N : Nat} {x : Str} {C : Addr} {wf : WFX}
theorem GfX.g (G : GfX P w K mg base p x k N wf) : Gf P w K mg base p x k N (noX wf) := by
  obtain ⟨f, fd, ps, F, r⟩ := G.ex
  exact ⟨f, fd, ps, cx0F F fun _ _ _ _ h => spX_of h, r⟩
theorem GisX.g (G : GisX P w K mg base p C x k m wf) : Gis P w K mg base p C x k m (noX wf) := by
  obtain ⟨f, F, r⟩ := G.ex
  exact ⟨f, cx0R F fun _ _ _ _ h => spS_imp h fun _ _ h => spIX_of h, r⟩
theorem GmsX.g (G : GmsX P w K mg base p C x k m wf) : Gms P w K mg base p C x k m (noX wf) := by
  obtain ⟨f, F, r⟩ := G.ex
  exact ⟨f, cx0R F fun _ _ _ _ h => spS_imp h fun _ _ h => spX_of h, r⟩
end

section
variable {X : Cx} {pins : List (Addr × Obj)} {σ : L2.St} {H : Hp} {s : Shared} {CX : CXT} {k : Nat} {f C : Addr} {sp : Sp} {E : St → XK} {Q : VK} {us : List Value} {vs : List V} {x m : Str} {e o : Expr} {es : List Expr} {t : TA} {ta : TE} {p1 pos apos : Pos}
theorem run_fnRS (F : FnR X.prog X.w X.K X.mg X.base CX k f sp) (hr : Room k X.A) (hx : PassesAt CX X σ (E σ)) (I : Inv X pins σ H s) (r : Vals vs us) (h : sp vs H Q (E σ)) :
    codeAny (model X.prog X.w) X.A (.call (.ref f) ⟨us, []⟩) (fun r s' => match r with | .ok (.ret v) => EP X pins σ Q v s' | .ok _ => False | .error e => X.xe e s') s := by
  refine codeAny_mono (F X.A X.stack s H us vs Q (E σ) hr I.env0 r h) fun r s' hq => ?_
  cases r with
  | error e => exact hx pins H s e s' I hq
  | ok fl =>
    cases fl with
    | ret u => exact I.after hq
    | next => exact False.elim hq
    | brk => exact False.elim hq
    | cont => exact False.elim hq
def tMakeS (C : Addr) (sp : Sp) (E : St → XK) (t : TA) : TE := fun σ H Q => t σ H fun vs H1 => ∀ x dx, H1 x = Option.none → H1 dx = Option.none → dx ≠ x →
  sp (V.ref x :: vs) (upd (upd H1 dx (.own x)) x (.ins C dx [])) (fun v H2 => v = .non ∧ Q (.ref x) H2) (E σ)
theorem run_makeS (M : Mk X.K C f) (F : FnR X.prog X.w X.K X.mg X.base CX k f sp) (hr : Room (k + 1) X.A) (hx : PassesAt CX X σ (E σ)) (I : Inv X pins σ H s) (r : Vals vs us)
    (h : ∀ x dx, H x = Option.none → H dx = Option.none → dx ≠ x → sp (V.ref x :: vs) (upd (upd H dx (.own x)) x (.ins C dx [])) (fun v H2 => v = .non ∧ Q (.ref x) H2) (E σ)) :
    wpAny (model X.prog X.w) X.A (call (.ref C) us) (EP X pins σ Q) X.xe s := by
  have hq := h (s.heap.objs.size + 1) s.heap.objs.size (I.hok.fresh (Nat.le_succ _)) (I.hok.fresh (Nat.le_refl _)) (Nat.ne_of_lt (Nat.lt_succ_self _))
  have I2 := Inv.made (C := C) I
  have r2 : Vals (V.ref (s.heap.objs.size + 1) :: vs) (Value.ref (s.heap.objs.size + 1) :: us) := .cons rfl r
  refine wpAny_call (make_map (f := f) I.kIn M.makes M.init (beq_iff_eq.mp M.fn) (codeAny_mono (F _ X.stack _ _ (Value.ref (s.heap.objs.size + 1) :: us) _ _ (E σ) (hr.make C us []) (I2.env0.make C us []) r2 hq) fun r s' hq' => ?_))
  cases r with
  | error e => exact hx pins _ _ e s' I2 hq'
  | ok fl =>
    cases fl with
    | ret u =>
      obtain ⟨v, H', I3, rv, ev, q3⟩ := I2.after hq'
      subst ev
      exact ⟨rv, ⟨V.ref (s.heap.objs.size + 1), H', I3, rfl, q3⟩⟩
    | next => exact False.elim hq'
    | brk => exact False.elim hq'
    | cont => exact False.elim hq'
theorem pe_makeS (M : Mk X.K C f) (F : FnR X.prog X.w X.K X.mg X.base CX k f sp) (hr : Room (k + 1) X.A) (hg : Gl X x) (hm : X.mg x = some (.ref C)) (hx : ∀ σ, PassesAt CX X σ (E σ)) (ha : PA X (e :: es) t) (hdb : (x == ("__debug__" : Str)) = false := by decide)
    (he : starEach (e :: es) X.env = (false, eval e X.env) :: starEach es X.env := by rfl) (hpl : (backTo pos (starEach es X.env)).any (·.1) = false := by rfl) : PE X (.Call (.Name x p1) (e :: es) [] pos) (tMakeS C sp E t) := by
  refine ⟨fun pins s σ H Q I h => ?_⟩
  refine wpAny_Call_Name_kw (ld_glob I hg hm ?_ hdb)
  refine PySem.W.callWith_K (h₀ := X.base) I.ok.mod.kin M.kp (thn (ha.run pos pins s σ H _ I h) fun us s1 ⟨vs, H1, I1, r, q⟩ => ⟨I1.kIn, ?_⟩) he hpl
  exact run_makeS M F hr (hx σ) I1 r q
theorem pe_makeSS (M : Mk X.K C f) (F : FnR X.prog X.w X.K X.mg X.base CX k f sp) (hr : Room (k + 1) X.A) (hg : Gl X x) (hm : X.mg x = some (.ref C)) (hx : ∀ σ, PassesAt CX X σ (E σ)) (ha : PA X (e :: es) t) (hdb : (x == ("__debug__" : Str)) = false := by decide)
    (he : starEach (e :: es) X.env = (false, eval e X.env) :: starEach es X.env := by rfl) (hst : (backTo pos (starEach es X.env)).any (·.1) = true := by rfl) : PE X (.Call (.Name x p1) (e :: es) [] pos) (tMakeS C sp E t) := by
  refine ⟨fun pins s σ H Q I h => ?_⟩
  refine wpAny_Call_Name_kw (ld_glob I hg hm ?_ hdb)
  refine PySem.W.callWith_S2 (h₀ := X.base) I.ok.mod.kin M.kp (thn (ha.run pos pins s σ H _ I h) fun us s1 ⟨vs, H1, I1, r, q⟩ => ⟨I1.kIn, ?_⟩) he hst
  exact run_makeS M F hr (hx σ) I1 r q
def tMethRS (C : Addr) (m : Str) (sp : Sp) (E : St → XK) (ta : TE) (t : TA) : TE := fun σ H Q => ta σ H fun x H1 => ∃ a dx fs, x = .ref a ∧ H1 a = some (.ins C dx fs) ∧ fs.lookup m = none ∧ t σ H1 fun vs H2 => sp (x :: vs) H2 Q (E σ)
theorem pe_methRS {pl : Sem Bool} (he : PE X o ta) (c : Cls X.K C) (hm : Meth X.K C m f)
    (F : FnR X.prog X.w X.K X.mg X.base CX k f sp) (hr : Room k X.A) (hx : ∀ σ, PassesAt CX X σ (E σ)) (ha : PA X (e :: es) t)
    (hst : starEach (e :: es) X.env = (false, eval e X.env) :: starEach es X.env := by rfl) (hpl : (backTo pos (starEach es X.env)).any (·.1) = false := by rfl)
    (ht : eval (.Call (.Attribute o m apos) (e :: es) [] pos) X.env = (do
      let ov ← eval o X.env
      standAt apos.atName
      let (f, first) ← holding [ov] (getMethod ov m pl)
      callWith pos f first (backTo pos (starEach (e :: es) X.env)) (backToKw pos (keywordEach [] X.env))) := by rfl) :
    PE X (.Call (.Attribute o m apos) (e :: es) [] pos) (tMethRS C m sp E ta t) := by
  refine ⟨fun pins s σ H Q I h => ?_⟩
  refine PySem.W.methodCall_KW (pl := pl) (thn (he.run pins s σ H _ I h) fun u s1 ⟨x, H1, I1, rx, a, dx, fs, ex, ea, l, q⟩ => ?_) ht
  subst ex
  obtain rfl : u = Value.ref a := rx
  refine getmeth_ok I1 ea c hm l ?_
  refine PySem.W.callWith_K (first := [.ref a]) (h₀ := X.base) I.ok.mod.kin hm.kp (thn (ha.run pos pins s1 σ H1 _ I1 q) fun us s2 ⟨vs, H2, I2, r, q2⟩ => ⟨I2.kIn, ?_⟩) hst hpl
  exact wpAny_call (run_fnRS (us := .ref a :: us) (vs := .ref a :: vs) F hr (hx σ) I2 (.cons rfl r) q2)
theorem pe_methRS0 {pl : Sem Bool} (he : PE X o ta) (c : Cls X.K C) (hm : Meth X.K C m f) (F : FnR X.prog X.w X.K X.mg X.base CX k f sp) (hr : Room k X.A) (hx : ∀ σ, PassesAt CX X σ (E σ))
    (ht : eval (.Call (.Attribute o m apos) [] [] pos) X.env = (do
      let ov ← eval o X.env
      standAt apos.atName
      let (f, first) ← holding [ov] (getMethod ov m pl)
      callWith pos f first (backTo pos (starEach [] X.env)) (backToKw pos (keywordEach [] X.env))) := by rfl) :
    PE X (.Call (.Attribute o m apos) [] [] pos) (tMethRS C m sp E ta tNil) := by
  refine ⟨fun pins s σ H Q I h => ?_⟩
  refine PySem.W.methodCall_KW (pl := pl) (thn (he.run pins s σ H _ I h) fun u s1 ⟨x, H1, I1, rx, a, dx, fs, ex, ea, l, q⟩ => ?_) ht
  subst ex
  obtain rfl : u = Value.ref a := rx
  refine getmeth_ok I1 ea c hm l ?_
  exact PySem.W.callWith_K0 (first := [.ref a]) I1.kIn hm.kp (wpAny_call (run_fnRS (us := [.ref a]) (vs := [.ref a]) F hr (hx σ) I1 (.cons rfl .nil) q))
end
section
variable {p : Par} {O0 : Addr → Prop} {H0 H : Hp} {σ : St} {ρ : Sl} {n m N : Nat} {ds : List D} {vs : List V} {wf : WFX} {Q : WQ} {QV : VK} {rx : RX} {W : WX}
theorem call_asksX (S : StR p O0 H0 σ H ρ n) (r : RpL p (Own O0 σ ρ) H ds vs) (hl : ds.length = N) (hw : wf ds n (fun d n2 => Q d ρ n2) (fun c ds n2 => rx c ds ρ n2))
    (k : ∀ d n2 v H', Q d ρ n2 → StR p O0 H0 σ H' ρ n2 → Rp p (Own O0 σ ρ) H' d v → Ext p O0 (Own O0 σ ρ) H (Own O0 σ ρ) H' → QV v H') (kx : XR p O0 H0 [] σ (Own O0 σ ρ) H rx W) : spX p N wf vs H QV (L2.WE W σ) :=
  ⟨Own O0 σ ρ, ds, n, _, _, fun a z => S.there z, fun a z => .inl (S.dk a z), S.at_, r, hl, hw, fun d n' v H' q kp at' rv => k d n' v H' q (S.move kp at') rv (S.ext kp), fun c C n' H' z hc kp at' => kx c C σ H' ρ n' z hc (S.move kp at') (S.ext kp) Only.refl⟩
def wStX (m : Nat) (wf : WFX) : WFX := fun ds n Q r => (m ≤ ds.length ∧ ds.length ≤ 100000) ∧ wf (ds.take m ++ [.tup (ds.drop m)]) n Q r
theorem call_asksSX (S : StR p O0 H0 σ H ρ n) (r : RpL p (Own O0 σ ρ) H ds vs) (hw : wStX m wf ds n (fun d n2 => Q d ρ n2) (fun c ds n2 => rx c ds ρ n2))
    (k : ∀ d n2 v H', Q d ρ n2 → StR p O0 H0 σ H' ρ n2 → Rp p (Own O0 σ ρ) H' d v → Ext p O0 (Own O0 σ ρ) H (Own O0 σ ρ) H' → QV v H') (kx : XR p O0 H0 [] σ (Own O0 σ ρ) H rx W) : spS m (spX p (m + 1) wf) vs H QV (L2.WE W σ) := by
  obtain ⟨⟨h1, h2⟩, hw⟩ := hw
  refine ⟨vs.take m, vs.drop m, (List.take_append_drop m vs).symm, ?_, ?_, fun q hq => ?_⟩
  · rw [List.length_take, ← r.length]; omega
  · exact le_line (by rw [List.length_drop, ← r.length]; omega)
  · have S1 := S.alloc (o := .tup (vs.drop m)) hq
    refine call_asksX S1 (rest_rp hq (S.notOwn hq) r) ?_ hw (fun d n2 v H' q' S' rv x => k d n2 v H' q' S' rv ((S.extA hq).trans x)) (kx.at (S.extA hq) no_mem)
    rw [List.length_append, List.length_take]
    show min m ds.length + 1 = m + 1
    omega
theorem make_asksX {C : Addr} (S : StR p O0 H0 σ H ρ n) (r : RpL p (Own O0 σ ρ) H ds vs) (hl : ds.length = N) (hw : wf ds n (fun d n2 => Q d ρ n2) (fun c ds n2 => rx c ds ρ n2))
    (kk : ∀ d n2 v H', Q d ρ n2 → StR p O0 H0 σ H' ρ n2 → Rp p (Own O0 σ ρ) H' d v → Ext p O0 (Own O0 σ ρ) H (Own O0 σ ρ) H' → QV v H') (kx : XR p O0 H0 [] σ (Own O0 σ ρ) H rx W) {y dx : Addr} (hy : H y = none) (hdx : H dx = none) (ne : dx ≠ y) :
    spIX p N C wf (.ref y :: vs) (upd (upd H dx (.own y)) y (.ins C dx [])) (fun v H2 => v = .non ∧ QV (.ref y) H2) (L2.WE W σ) := by
  have hy1 : upd H dx (.own y) y = none := by rw [upd_ne (Ne.symm ne)]; exact hy
  have S2 := (S.alloc (o := .own y) hdx).alloc (o := .ins C dx []) hy1
  have x2 : ∀ b o, H b = some o → upd (upd H dx (.own y)) y (.ins C dx []) b = some o := fun b o e => keep_new hy1 b o (keep_new hdx b o e)
  have kp' : ∀ {H' : Hp}, (∀ b o, b ≠ y → ¬ p.dk b → upd (upd H dx (.own y)) y (.ins C dx []) b = some o → H' b = some o) → ∀ b o, ¬ p.dk b → H b = some o → H' b = some o := fun kp b o nd e => kp b o (ne_of_none e hy) nd (x2 b o e)
  refine ⟨Own O0 σ ρ, y, dx, ds, vs, n, _, _, rfl, upd_same, S.notOwn hy, fun b z => S2.there z, fun b z => .inl (S.dk b z), S2.at_, ?_, hl, hw, fun d n' H' q kp at' rv => ⟨rfl, kk d n' _ H' q (S.move (kp' kp) at') rv (S.ext (kp' kp))⟩, fun c C n' H' z hc kp at' => kx c C σ H' ρ n' z hc (S.move (kp' kp) at') (S.ext (kp' kp)) Only.refl⟩
  refine RpL.gr (fun b o no e => ⟨fun z => ?_, x2 b o e⟩) _ _ r
  rcases z with z | z
  · exact no z
  · exact ne_of_none e hy z
theorem make_asksSX {C : Addr} (S : StR p O0 H0 σ H ρ n) (r : RpL p (Own O0 σ ρ) H ds vs) (hw : wStX m wf ds n (fun d n2 => Q d ρ n2) (fun c ds n2 => rx c ds ρ n2))
    (kk : ∀ d n2 v H', Q d ρ n2 → StR p O0 H0 σ H' ρ n2 → Rp p (Own O0 σ ρ) H' d v → Ext p O0 (Own O0 σ ρ) H (Own O0 σ ρ) H' → QV v H') (kx : XR p O0 H0 [] σ (Own O0 σ ρ) H rx W) {y dx : Addr} (hy : H y = none) (hdx : H dx = none) (ne : dx ≠ y) :
    spS (m + 1) (spIX p (m + 1) C wf) (.ref y :: vs) (upd (upd H dx (.own y)) y (.ins C dx [])) (fun v H2 => v = .non ∧ QV (.ref y) H2) (L2.WE W σ) := by
  obtain ⟨⟨h1, h2⟩, hw⟩ := hw
  refine ⟨.ref y :: vs.take m, vs.drop m, by simp, ?_, ?_, fun q hq => ?_⟩
  · rw [List.length_cons, List.length_take, ← r.length]; omega
  · exact le_line (by rw [List.length_drop, ← r.length]; omega)
  · have nqy : q ≠ y := fun z => by subst z; rw [upd_same] at hq; cases hq
    rw [upd_ne nqy] at hq
    have nqd : q ≠ dx := fun z => by subst z; rw [upd_same] at hq; cases hq
    rw [upd_ne nqd] at hq
    have e : upd (upd (upd H dx (.own y)) y (.ins C dx [])) q (.tup (vs.drop m)) = upd (upd (upd H q (.tup (vs.drop m))) dx (.own y)) y (.ins C dx []) := by
      rw [upd_comm (Ne.symm nqy), upd_comm (Ne.symm nqd)]
    rw [e]
    have S1 := S.alloc (o := .tup (vs.drop m)) hq
    refine make_asksX (N := m + 1) S1 (rest_rp hq (S.notOwn hq) r) ?_ hw (fun d n2 v H' q' S' rv x => kk d n2 v H' q' S' rv ((S.extA hq).trans x)) (kx.at (S.extA hq) no_mem) (by rw [upd_ne (Ne.symm nqy)]; exact hy) (by rw [upd_ne (Ne.symm nqd)]; exact hdx) ne
    rw [List.length_append, List.length_take]
    show min m ds.length + 1 = m + 1
    omega
end
section
variable {p : Par} {X : Cx} {W : WX} {e o : Expr} {es : List Expr} {te : TE} {we : WE} {t : TA} {w : WA} {pos p1 apos : Pos} {x : Str} {k m N : Nat} {C : Addr} {wf : WFX}
def wLenX (N : Nat) (wf : WFX) : WFX := fun ds n Q r => ds.length = N ∧ wf ds n Q r
def wCallX (wf : WFX) (w : WA) : WEX := fun r ρ n Q => w ρ n fun as ρ1 n1 => wf as n1 (fun d n2 => Q d ρ1 n2) (fun c ds n2 => r c ds ρ1 n2)
def wMethX (c m : String) (wf : WFX) (we : WE) (w : WA) : WEX := fun r ρ n Q => we ρ n fun d ρ1 n1 => onO c m d (w ρ1 n1 fun as ρ2 n2 => wf (d :: as) n2 (fun x n3 => Q x ρ2 n3) (fun c ds n3 => r c ds ρ2 n3))
theorem pdx_g (G : GfX X.prog X.w X.K X.mg X.base p x k N wf) (tk : Takes X W) (hr : Room k X.A) (ha : PDA p X (e :: es) t w) (hg : Gl X x := by rfl) (hdb : (x == ("__debug__" : Str)) = false := by decide) (he : starEach (e :: es) X.env = (false, eval e X.env) :: starEach es X.env := by rfl) (hpl : (backTo pos (starEach es X.env)).any (·.1) = false := by rfl) :
    PDX p X W (.Call (.Name x p1) (e :: es) [] pos) (tCallS (spX p N wf) (L2.WE W) t) (wCallX (wLenX N wf) w) := by
  obtain ⟨f, fd, ps, F, hm, hk, hb⟩ := G.ex
  refine ⟨pe_callS F hr hg hm hk hb (fun σ => passAt tk σ) ha.pa hdb he hpl, fun O0 H0 σ H ρ n r Q QV S hw kk kx => ?_⟩
  refine ha.sim O0 H0 σ H ρ n _ _ S hw fun ds ρ1 n1 vs H1 q1 S1 r1 x1 => ?_
  exact call_asksX S1 r1 q1.1 q1.2 (fun d n2 v H' q S' rv x2 => kk d ρ1 n2 v H' q S' rv (x1.trans x2)) (kx.at x1 no_mem)
theorem sim_makeX (ha : SimA p t w) : SimEX p W (tMakeS C (spS (m + 1) (spIX p (m + 1) C wf)) (L2.WE W) t) (wCallX (wStX m wf) w) := by
  intro O0 H0 σ H ρ n r Q QV S hw kk kx
  refine ha O0 H0 σ H ρ n _ _ S hw fun ds ρ1 n1 vs H1 q1 S1 r1 x1 => ?_
  intro y dx hy hdx ne
  exact make_asksSX S1 r1 q1 (fun d n2 v H' q S' rv x2 => kk d ρ1 n2 v H' q S' rv (x1.trans x2)) (kx.at x1 no_mem) hy hdx ne
theorem pdx_mkS (G : GisX X.prog X.w X.K X.mg X.base p C x k m wf) (tk : Takes X W) (hr : Room (k + 1) X.A) (ha : PDA p X (e :: es) t w) (hg : Gl X x := by rfl) (hdb : (x == ("__debug__" : Str)) = false := by decide)
    (he : starEach (e :: es) X.env = (false, eval e X.env) :: starEach es X.env := by rfl) (hpl : (backTo pos (starEach es X.env)).any (·.1) = false := by rfl) :
    PDX p X W (.Call (.Name x p1) (e :: es) [] pos) (tMakeS C (spS (m + 1) (spIX p (m + 1) C wf)) (L2.WE W) t) (wCallX (wStX m wf) w) := by
  obtain ⟨f, F, M, hm⟩ := G.ex
  exact ⟨pe_makeS M F hr hg hm (fun σ => passAt tk σ) ha.pa hdb he hpl, sim_makeX ha.sim⟩
theorem pdx_mkSS (G : GisX X.prog X.w X.K X.mg X.base p C x k m wf) (tk : Takes X W) (hr : Room (k + 1) X.A) (ha : PDA p X (e :: es) t w) (hg : Gl X x := by rfl) (hdb : (x == ("__debug__" : Str)) = false := by decide)
    (he : starEach (e :: es) X.env = (false, eval e X.env) :: starEach es X.env := by rfl) (hst : (backTo pos (starEach es X.env)).any (·.1) = true := by rfl) :
    PDX p X W (.Call (.Name x p1) (e :: es) [] pos) (tMakeS C (spS (m + 1) (spIX p (m + 1) C wf)) (L2.WE W) t) (wCallX (wStX m wf) w) := by
  obtain ⟨f, F, M, hm⟩ := G.ex
  exact ⟨pe_makeSS M F hr hg hm (fun σ => passAt tk σ) ha.pa hdb he hst, sim_makeX ha.sim⟩
theorem sim_methSX {cn mn : String} (cp : ClsP p cn C) (he : SimE p te we) (ha : SimA p t w) : SimEX p W (tMethRS C (Str.ofString mn) (spS m (spX p (m + 1) wf)) (L2.WE W) te t) (wMethX cn mn (wStX m wf) we w) := by
  intro O0 H0 σ H ρ n r Q QV S hw kk kx
  refine he O0 H0 σ H ρ n _ _ S hw fun d ρ1 n1 x H1 q1 S1 r1 x1 => ?_
  obtain ⟨ns, ds, rfl, hn, q⟩ := onO_get q1
  obtain ⟨a, C', dx, xs, rfl, m1, h1, hc, en, rl⟩ := id r1
  rw [cp.at_] at hc; cases hc
  refine ⟨a, dx, xs, rfl, h1, notin_str en hn, ha O0 H0 σ H1 ρ1 n1 _ _ S1 q fun as ρ2 n2 vs H2 q2 S2 r2 x2 => ?_⟩
  exact call_asksSX S2 (.cons (Rp.gr x2.gr _ _ r1) r2) q2 (fun d' n3 v H3 q' S' rv x3 => kk d' ρ2 n3 v H3 q' S' rv ((x1.trans x2).trans x3)) (kx.at (x1.trans x2) no_mem)
theorem pdx_methS (cn mn : String) (cp : ClsP p cn C) (hK : X.K = p.K) (G : GmsX X.prog X.w X.K X.mg X.base p C (Str.ofString mn) k m wf) (tk : Takes X W) (hr : Room k X.A) (he : PD p X o te we) (ha : PDA p X (e :: es) t w)
    (mk : ∀ {f : Addr} {ta' : TE} {t' : TA}, Room k X.A → FnR X.prog X.w X.K X.mg X.base (L2.CX X.prog X.w) k f (spS m (spX p (m + 1) wf)) → Meth X.K C (Str.ofString mn) f → Cls X.K C → PE X o ta' → PA X (e :: es) t' → (∀ σ, PassesAt (L2.CX X.prog X.w) X σ (L2.WE W σ)) →
      PE X (.Call (.Attribute o (Str.ofString mn) apos) (e :: es) [] pos) (tMethRS C (Str.ofString mn) (spS m (spX p (m + 1) wf)) (L2.WE W) ta' t') := by
      exact fun hr F M c he ha hx => pe_methRS he c M F hr hx ha) :
    PDX p X W (.Call (.Attribute o (Str.ofString mn) apos) (e :: es) [] pos) (tMethRS C (Str.ofString mn) (spS m (spX p (m + 1) wf)) (L2.WE W) te t) (wMethX cn mn (wStX m wf) we w) := by
  obtain ⟨f, F, M⟩ := G.ex
  exact ⟨mk hr F M (by rw [hK]; exact cp.cl) he.pe ha.pa (fun σ => passAt tk σ), sim_methSX cp he.sim ha.sim⟩
theorem pdx_methS0 (cn mn : String) (cp : ClsP p cn C) (hK : X.K = p.K) (G : GmsX X.prog X.w X.K X.mg X.base p C (Str.ofString mn) k m wf) (tk : Takes X W) (hr : Room k X.A) (he : PD p X o te we)
    (mk : ∀ {f : Addr} {ta' : TE}, Room k X.A → FnR X.prog X.w X.K X.mg X.base (L2.CX X.prog X.w) k f (spS m (spX p (m + 1) wf)) → Meth X.K C (Str.ofString mn) f → Cls X.K C → PE X o ta' → (∀ σ, PassesAt (L2.CX X.prog X.w) X σ (L2.WE W σ)) →
      PE X (.Call (.Attribute o (Str.ofString mn) apos) [] [] pos) (tMethRS C (Str.ofString mn) (spS m (spX p (m + 1) wf)) (L2.WE W) ta' tNil) := by
      exact fun hr F M c he hx => pe_methRS0 he c M F hr hx) :
    PDX p X W (.Call (.Attribute o (Str.ofString mn) apos) [] [] pos) (tMethRS C (Str.ofString mn) (spS m (spX p (m + 1) wf)) (L2.WE W) te tNil) (wMethX cn mn (wStX m wf) we wNil) := by
  obtain ⟨f, F, M⟩ := G.ex
  exact ⟨mk hr F M (by rw [hK]; exact cp.cl) he.pe (fun σ => passAt tk σ), sim_methSX cp he.sim sim_nil⟩
end

structure ExK (p : Par) (K : PySem.W.Frag) (mg : Str → Option Value) (c : String) (x : Str) (C : Addr) : Prop where
  at_ : p.cls c = some C
  exc : PySem.W.excIn K C [.type "Exception", .type "BaseException", .type "object"] "Exception.__new__" = true
  gC : mg x = some (.ref C)
  kp : PySem.W.keepIn K (.ref C) = true
  sb : PySem.W.subIn K (.ref C) (.type "BaseException") = some true
  ty : PySem.W.typeIn K (.ref C) = some (.type "type")
section
variable {p : Par} {X : Cx} {W : WX} {C : Addr} {x : Str} {p1 pos pos1 : Pos} {c : String}
/-- X() -/
theorem pmk_own0 {bmB : List Value} {B newId initId : String} (F : ExcBaseFacts B newId initId bmB) (q : PySem.W.excIn X.K C bmB newId = true) (gC : X.mg x = some (.ref C)) (kC : PySem.W.keepIn X.K (.ref C) = true) (r : Raises X (.ref C)) (hg : Gl X x)
    (hdb : (x == ("__debug__" : Str)) = false := by decide) : PMk X (.Call (.Name x p1) [] [] pos) (fun _ H Q => Q (.ref C) none H) := by
  intro pins s σ H Q I h
  refine wpAny_Call_Name_kw (ld_glob I hg gC ?_ hdb)
  refine PySem.W.callWith_K0 (first := []) I.kIn kC ?_
  show wpAny _ _ (call (.ref C) []) _ _ _
  obtain ⟨bm, N, nm, qn, bs, hdct, sn, sub, ab, col, dd, k0, k1, k2, k3, k5, mN, hC, hN, hni, T⟩ := exc_obj I.kIn q
  refine wpAny_call_exc_subT F T hC hN hni (fun h' e hm => ?_) (by show 0 ≤ sizeLine; omega)
  exact mk_of I hm r h (I.hok.gone hm.new)
def wRaise (c : String) : WS := fun q ρ n => q.xc c [] ρ n
theorem pdsx_raise (G : ExK p X.K X.mg c x C) (tk : Takes X W) (hc : X.calm = true := by rfl) (hg : Gl X x := by rfl) (hdb : (x == ("__debug__" : Str)) = false := by decide) :
    PDSX p X W (.Raise (some (.Call (.Name x p1) [] [] pos1)) none pos) [] (fun _ σ H => W (.ref C) none σ H) (wRaise c) :=
  ⟨ps_raise hc tk (pmk_own0 F.excBase_Exception G.exc G.gC G.kp (raises_own G.sb G.ty) hg hdb), fun O0 H0 σ H ρ n q E S hw r k => k c C σ H ρ n hw G.at_ S Ext.refl Only.refl⟩

def wTry (c : String) (w z : WS) : WS := fun q ρ n => w { q with xc := fun c' ds ρ' n' => c' = c ∧ ds = [] ∧ z q ρ' n' } ρ n
def tTryD (p : Par) (K : PySem.W.Frag) (C : Addr) (gs hs : List Nat) (w z : WS) : TS := fun E σ H => ∃ O0 H0 ρ n q, StR p O0 H0 σ H ρ n ∧ w q ρ n ∧ EndsR p O0 H0 gs σ (Own O0 σ ρ) H q E ∧ XR p O0 H0 gs σ (Own O0 σ ρ) H q.xc
  (wOnly K (.ref C) (fun _ _ _ E σ H => ∃ O0 H0 ρ n q, StR p O0 H0 σ H ρ n ∧ z q ρ n ∧ EndsR p O0 H0 hs σ (Own O0 σ ρ) H q E) (fun _ _ _ _ => False) E)
theorem pds_try {body suite : List Stmt} {b0 : Stmt} {np pos' : Pos} {gs hs : List Nat} {w z : WS} (G : ExK p X.K X.mg c x C) (ex : PySem.W.exmOne X.K (.ref C) (.ref C) = some true)
    (hb : ∀ (W : WX) (pn : List (Addr × Obj)) (xe : Value → Shared → Prop), Takes (X.tr pn xe) W → PassesOwn (model X.prog X.w) X.A X.env xe → ∃ t, PDBX p (X.tr pn xe) W body gs t w)
    (hsu : ∀ (a : Addr) (oe : Obj) (pn : List (Addr × Obj)), ∃ t, PDB p (X.suite a ((a, oe) :: pn)) (b0 :: suite) hs t z)
    (h1 : X.stack = X.env :: X.outer := by rfl) (h2 : X.env.frame = some X.env.locals := by rfl) (hg : Gl X x := by rfl) (hdb : (x == ("__debug__" : Str)) = false := by decide) :
    PDS p X (.Try body [.ExceptHandler (some (.Name x np)) none (b0 :: suite) pos'] [] [] pos) (gs ++ hs) (tTryD p X.K C gs hs w z) (wTry c w z) := by
  have hp := ps_try_only (X := X) (x := x) (c := .ref C) (body := body) (suite := suite) (b₀ := b0) (np := np) (pos := pos) (pos' := pos') (Wout := fun _ _ _ _ => False)
    (tb := fun W E σ H => ∃ O0 H0 ρ n q, StR p O0 H0 σ H ρ n ∧ w q ρ n ∧ EndsR p O0 H0 gs σ (Own O0 σ ρ) H q E ∧ XR p O0 H0 gs σ (Own O0 σ ρ) H q.xc W)
    (ts := fun _ _ _ E σ H => ∃ O0 H0 ρ n q, StR p O0 H0 σ H ρ n ∧ z q ρ n ∧ EndsR p O0 H0 hs σ (Own O0 σ ρ) H q E) h1 h2 ⟨hg, hdb, .inl G.gC⟩ takes0
    (fun W pn xe tk po => by
      obtain ⟨t, B⟩ := hb W pn xe tk po
      exact ⟨fun pins s σ H D I ⟨O0, H0, ρ, n, q, S, hw, r, k⟩ => B.ps.run pins s σ H D I (B.sim O0 H0 σ H ρ n q D S hw r k)⟩)
    (fun a oe cls d pn _ _ => by
      obtain ⟨t, B⟩ := hsu a oe pn
      exact ⟨fun pins s σ H D I ⟨O0, H0, ρ, n, q, S, hw, r⟩ => B.ps.run pins s σ H D I (B.sim O0 H0 σ H ρ n q D S hw r)⟩)
  refine ⟨hp, fun O0 H0 σ H ρ n q E S hw r => ?_⟩
  have r1 := r.at (is := gs) Ext.refl mem_l
  refine ⟨O0, H0, ρ, n, _, S, hw, ⟨r1.nx, r1.bk, r1.ct, r1.rt⟩, fun c' C' σ' H' ρ' n' hz hc S' x' o' => ?_⟩
  obtain ⟨rfl, _, hz⟩ := hz
  rw [G.at_] at hc; cases hc
  refine ⟨true, ex, fun _ a ha => ⟨O0, H0, ρ', n', q, S', hz, r.after x' o' mem_l mem_r⟩, fun h => Bool.noConfusion h⟩
end
end DL
end
section
namespace DL
open PySem L2 StX
open PyProof.Rows (envOfC)

theorem exm_own {K : PySem.W.Frag} {C D : Addr} {b : Bool} (h1 : PySem.W.subIn K (.ref C) (.type "BaseException") = some true) (h2 : PySem.W.isClsIn K C = true) (h3 : PySem.W.typeIn K (.ref C) = some (.type "type")) (h4 : PySem.W.subIn K (.ref D) (.ref C) = some b) :
    PySem.W.exmOne K (.ref D) (.ref C) = some b := by
  unfold PySem.W.exmOne PySem.W.kitCls
  rw [if_pos (by rw [h1]; rfl)]
  show (if ((PySem.W.clsIn K C).isSome && PySem.W.typeIn K (.ref C) == some (.type "type")) = true then PySem.W.subIn K (.ref D) (.ref C) else none) = some b
  rw [if_pos (by rw [h3]; simpa [PySem.W.isClsIn] using h2)]
  exact h4

def rInsD : V → List V → Hp → VK → Prop := fun x vs H Q => ∃ (l : Addr) (xs : List V) (i : Int) (y : V), x = .ref l ∧ vs = [.int i, y] ∧ H l = some (.lst xs) ∧ xs.length < sizeLine ∧ 0 ≤ i ∧ i < 2 ^ 63 ∧ Q .non (upd H l (.lst (xs.take i.toNat ++ [y] ++ xs.drop i.toNat)))
section
variable {p : Par} {X : Cx} {e e1 e2 : Expr} {es : List Expr} {te t1 t2 : TE} {we w1 w2 : WE} {t : TA} {w : WA} {pos p1 : Pos} {x : Str}
def wIns (i : Nat) (wa wb : WE) : WE := fun ρ n Q => match ρ[i]? with
  | some (.own (.lst ds)) => wa ρ n fun d ρ1 n1 => onI d fun k => wb ρ1 n1 fun y ρ2 n2 => match ρ2[i]? with
    | some (.own (.lst es)) => es = ds ∧ 0 ≤ k ∧ k < (2 : Int) ^ 62 ∧ ds.length < 100000 ∧ Q .non (ρ2.set i (.own (.lst (ds.take k.toNat ++ [y] ++ ds.drop k.toNat)))) n2
    | _ => False
  | _ => False
theorem pd_ins (i : Nat) {y : Str} {p0 apos cpos : Pos} (hK : X.K = p.K) (h1 : PD p X e1 t1 w1) (h2 : PD p X e2 t2 w2) (hN : X.N[i]? = some y := by rfl) (hv : Vis X.env.scope y := by first | exact Or.inl rfl | exact Or.inr (Or.inl rfl) | exact Or.inr (Or.inr rfl)) (hd : (y == ("__debug__" : Str)) = false := by decide)
    (hcd : (y == ("__classdict__" : Str)) = false := by decide) (hs2 : starEach [e2] X.env = (false, eval e2 X.env) :: starEach [] X.env := by rfl) (ok : BmOk X (.Name y p0) "insert" e1 [e2] apos cpos := by exact ⟨rfl, rfl, rfl, rfl, rfl⟩) :
    PD p X (.Call (.Attribute (.Name y p0) "insert" apos) [e1, e2] [] cpos) (tBM p.K "list" rInsD (tVar i) (tCons t1 (tCons t2 tNil))) (wIns i w1 w2) := by
  refine ⟨by rw [← hK]; exact pe_bm PySem.F.plainAttrs_list PySem.F.slot_list_insert PySem.F.type_list_insert mt_insert (pv i hN hv hd hcd) (pa_cons h1.pe (pa_cons h2.pe pa_nil hs2) ok.b4) ok.b1 ok.b2 ok.b3 ok.b4 ok.b5, fun O0 H0 σ H ρ n Q QV S hw k => ?_⟩
  unfold wIns at hw
  split at hw
  · rename_i ds e3
    obtain ⟨a, e4, w0, n1, _⟩ := S.own i _ e3
    obtain ⟨vs, g1, r1⟩ := w0
    refine ⟨.ref a, e4, .inl ⟨rfl, _, SqL.of g1⟩, h1.sim O0 H0 σ H ρ n _ _ S hw fun d ρ1 n1' y H1 q1 S1 ry x1 => ?_⟩
    obtain ⟨m, rfl, q1⟩ := onI_get q1
    refine h2.sim O0 H0 σ H1 ρ1 n1' _ _ S1 q1 fun z ρ2 n2 u H2 q2 S2 rz x2 => ?_
    split at q2
    · rename_i es e5
      obtain ⟨rfl, hm0, hm1, hl, q⟩ := q2
      obtain ⟨a', e6, w1, m1, _⟩ := S2.own i _ e5
      rw [e4] at e6; cases e6
      obtain ⟨vs', g2, r2⟩ := w1
      cases (show y = V.int m from ry)
      have hz : (2 : Int) ^ 62 < 2 ^ 63 := by decide
      have hlen := r2.length
      refine ⟨a, vs', m, u, rfl, rfl, g2, Nat.lt_of_lt_of_le (show vs'.length < 100000 by omega) (le_line (Nat.le_refl _)), hm0, by omega, ?_⟩
      obtain ⟨S3, x3⟩ := S2.change (o := .lst (vs'.take m.toNat ++ [u] ++ vs'.drop m.toNat)) (d' := .lst (es.take m.toNat ++ [z] ++ es.drop m.toNat)) e5 e4 fun O' H' gr eo => ⟨_, eo, RpL.append (RpL.append (RpL.take _ (RpL.gr gr _ _ r2)) (RpL.cons (Rp.gr gr _ _ rz) (show RpL p O' H' [] [] from rfl))) (RpL.drop _ (RpL.gr gr _ _ r2))⟩
      exact k _ _ n2 _ _ q S3 rfl ((x1.trans x2).trans x3)
    · exact q2.elim
  · exact hw.elim
end
section
variable {p : Par} {X : Cx} {a b : Expr} {ta tb : TE} {wa wb : WE} {pos : Pos} {x : Str}
def wParFV (i j : Nat) (wa wb : WE) : WS := fun q ρ n => wa ρ n fun d ρ1 n1 => wb ρ1 n1 fun d' ρ2 n2 => i < ρ2.length ∧ j < ρ2.length ∧ q.nx ((ρ2.set i (.own d)).set j (.val d')) n2
theorem pds_parFV (i j : Nat) {y : Str} {px py pt : Pos} {kt k2 pt2} (hc : X.calm = true) (hN : X.N.Nodup) (ha : PDF p X a ta wa) (hb : PD p X b tb wb)
    (hi : X.N[i]? = some x := by rfl) (hj : X.N[j]? = some y := by rfl) (hij : i ≠ j := by decide) (hx : X.env.scope.names.lookup x = some .local := by rfl) (hy : X.env.scope.names.lookup y = some .local := by rfl)
    (hw : swappedStores [.Tuple [.Name x px, .Name y py] kt pt] (.Tuple [a, b] k2 pt2) X.env = pure (some [x, y]) := by rfl) (hs : swapsWithSole [.Tuple [.Name x px, .Name y py] kt pt] (.Tuple [a, b] k2 pt2) pos.line X.env = pure false := by rfl)
    (h1 : starEach [a, b] X.env = (false, eval a X.env) :: starEach [b] X.env := by rfl) (h2 : starEach [b] X.env = (false, eval b X.env) :: starEach [] X.env := by rfl) :
    PDS p X (.Assign [.Tuple [.Name x px, .Name y py] kt pt] (.Tuple [a, b] k2 pt2) pos) [i, j] (tPar i j (tCons ta (tCons tb tNil))) (wParFV i j wa wb) := by
  refine ⟨ps_par hc hN hi hj hij hx hy (pa_cons ha.pe (pa_cons hb.pe pa_nil h2) h1) hw hs, fun O0 H0 σ H ρ n q E S hw r => ?_⟩
  refine ha.sim O0 H0 σ H ρ n _ _ S hw fun d ρ1 n1 u H1 q1 S1 w1 h01 n01 x1 => ?_
  refine hb.sim (And1 O0 u) H0 σ H1 ρ1 n1 _ _ S1 q1 fun d' ρ2 n2 v H2 q2 S2 rv x2 => ?_
  obtain ⟨g1, g2, q2⟩ := q2
  have nd : ¬ p.dk u := fun z => n01 (S.dk u z)
  refine ⟨_, _, rfl, ?_⟩
  have w1' : OwnAt p (Own (And1 O0 u) σ ρ2) H2 u d := w1.gr x2.gr fun o e => x2.kp u o (.inr rfl) nd e
  have S3 := S2.setV (i := j) rv g2
  have gr3 : Gr (Own (And1 O0 u) σ ρ2) H2 (Own (And1 O0 u) (σ.set j (some v)) (ρ2.set j (.val d'))) H2 := gr_set
  have S4 := S3.setO (i := i) (w1'.gr gr3 fun _ e => e) h01 n01 S.dk (by simpa using g1)
  have sub4 : ∀ c, Own O0 ((σ.set j (some v)).set i (some (.ref u))) ((ρ2.set j (.val d')).set i (.own d)) c → Own (And1 O0 u) (σ.set j (some v)) (ρ2.set j (.val d')) c := fun c z => by
    rcases z with z | ⟨l, e, e1, e2⟩
    · exact .inl (.inl z)
    · by_cases hl : i = l
      · subst hl
        rw [List.getElem?_set_self (by rw [List.length_set, S2.len]; exact g1)] at e2
        cases e2
        exact .inl (.inr rfl)
      · rw [List.getElem?_set_ne hl] at e1 e2
        exact .inr ⟨l, e, e1, e2⟩
  have gr4 : Gr (Own (And1 O0 u) (σ.set j (some v)) (ρ2.set j (.val d'))) H2 (Own O0 ((σ.set j (some v)).set i (some (.ref u))) ((ρ2.set j (.val d')).set i (.own d))) H2 := fun c o no e => ⟨fun z => no (sub4 c z), e⟩
  have x12 : Ext p O0 (Own O0 σ ρ) H (Own O0 ((σ.set j (some v)).set i (some (.ref u))) ((ρ2.set j (.val d')).set i (.own d))) H2 := ⟨(x1.gr.trans x2.gr).trans (gr3.trans gr4), fun c o z dd e => x2.kp c o (.inl z) dd (x1.kp c o z dd e)⟩
  rw [List.set_comm _ _ (Ne.symm hij), List.set_comm _ _ (Ne.symm hij)] at S4
  rw [List.set_comm _ _ (Ne.symm hij), List.set_comm _ _ (Ne.symm hij)] at x12
  exact r.nx _ H2 _ n2 q2 S4 x12 only_set2
end
def rxs0 : RX := fun _ _ _ _ => False
theorem PDX.pd {p : Par} {X : Cx} {e : Expr} {t : TE} {w : WEX} (h : PDX p X (fun _ _ _ _ => False) e t w) : PD p X e t (w rxs0) := ⟨h.pe, fun O0 H0 σ H ρ n Q QV S hw k => h.sim O0 H0 σ H ρ n rxs0 Q QV S hw k fun _ _ _ _ _ _ z => z.elim⟩

section
variable {p : Par} {X : Cx} {W : WX} {e : Expr} {es : List Expr} {t : TA} {w : WA} {pos p1 : Pos} {x : Str} {k m : Nat} {C : Addr} {wf : WFX}
def wMkV (i : Nat) (c : String) (wf : WFX) (w : WA) : WEX := fun r ρ n Q => match ρ[i]? with
  | some (.val (.cls c')) => c' = c ∧ wCallX wf w r ρ n Q
  | _ => False
/-- y(e, .., *z), y the class -/
theorem pdx_mkVSS {xc : Str} (i : Nat) (c : String) (at_ : p.cls c = some C) (G : GisX X.prog X.w X.K X.mg X.base p C xc k m wf) (tk : Takes X W) (hr : Room (k + 1) X.A) (ha : PDA p X (e :: es) t w)
    (hN : X.N[i]? = some x := by rfl) (hv : Vis X.env.scope x := by first | exact Or.inl rfl | exact Or.inr (Or.inl rfl) | exact Or.inr (Or.inr rfl)) (hd : (x == ("__debug__" : Str)) = false := by decide) (hcd : (x == ("__classdict__" : Str)) = false := by decide)
    (he : starEach (e :: es) X.env = (false, eval e X.env) :: starEach es X.env := by rfl) (hst : (backTo pos (starEach es X.env)).any (·.1) = true := by rfl) :
    PDX p X W (.Call (.Name x p1) (e :: es) [] pos) (fun σ H Q => σ[i]? = some (some (.ref C)) ∧ tMakeS C (spS (m + 1) (spIX p (m + 1) C wf)) (L2.WE W) t σ H Q) (wMkV i c (wStX m wf) w) := by
  obtain ⟨f, F, M, hm⟩ := G.ex
  refine ⟨⟨fun pins s σ H Q I h => ?_⟩, fun O0 H0 σ H ρ n r Q QV S hw kk kx => ?_⟩
  · obtain ⟨h1, h2⟩ := h
    refine wpAny_Call_Name_kw (thn ((pv i hN hv hd hcd).run pins s σ H (fun v H1 => v = .ref C ∧ H1 = H) I ⟨_, h1, rfl, rfl⟩) fun u s1 ⟨v, H1, I1, rv, ev, eH⟩ => ?_)
    subst ev eH
    obtain rfl : u = Value.ref C := rv
    refine PySem.W.callWith_S2 (h₀ := X.base) I.ok.mod.kin M.kp (thn (ha.pa.run pos pins s1 σ _ _ I1 h2) fun us s2 ⟨vs, H2, I2, r, q⟩ => ⟨I2.kIn, ?_⟩) he hst
    exact run_makeS M F hr (passAt tk σ) I2 r q
  · unfold wMkV at hw
    split at hw
    · rename_i c' e1
      obtain ⟨rfl, hw⟩ := hw
      obtain ⟨v, e2, rv⟩ := S.val i _ e1
      have rv' : ∃ C', v = .ref C' ∧ p.cls c' = some C' := rv
      obtain ⟨C', rfl, hC⟩ := rv'
      rw [at_] at hC; cases hC
      exact ⟨e2, sim_makeX ha.sim O0 H0 σ H ρ n r Q QV S hw kk kx⟩
    · exact hw.elim
end

structure GcmK (P : Program) (w : World) (K : PySem.W.Frag) (mg : Str → Option Value) (base : Heap) (p : Par) (C : Addr) (x m kn : Str) (k : Nat) (wf : WF) : Prop where
  ex : ∃ (q f : Addr) (fd : FuncData) (ps : List Str) (mc : Value), FnOk P w K mg base CX0 k f fd ps (spW p 2 wf) ∧ ClX.CRead K C mc ∧ ClX.CMet K C mc m q f ∧ ps.length = 2 ∧ (∀ a b : Value, bindArgs fd ⟨[a], [(kn, b)]⟩ = pure (ps.zip [a, b])) ∧ mg x = some (.ref C)
section
variable {p : Par} {X : Cx} {e : Expr} {te : TE} {we : WE} {pos p1 apos : Pos} {x : Str} {k : Nat} {C : Addr} {wf : WF}
def wCMethK (c : String) (wf : WF) (we : WE) : WE := fun ρ n Q => we ρ n fun d ρ1 n1 => wf [.cls c, d] n1 fun r n2 => Q r ρ1 n2
def tCMethK (p : Par) (C : Addr) (wf : WF) (te : TE) : TE := fun σ H Q => te σ H fun y H1 => spW p 2 wf [.ref C, y] H1 Q E0
theorem pd_cmethK {kn m : Str} {kpos : Pos} {pl : Sem Bool} (c : String) (at_ : p.cls c = some C) (G : GcmK X.prog X.w X.K X.mg X.base p C x m kn k wf) (hr : Room k X.A) (hb : PD p X e te we) (hg : Gl X x := by rfl) (hdb : (x == ("__debug__" : Str)) = false := by decide)
    (hkw : (backToKw pos (keywordEach [⟨some kn, e, kpos⟩] X.env)) = [(some kn, do let v ← eval e X.env; standAt pos; pure v)] := by rfl)
    (hpl : ((backTo pos (starEach [] X.env)).any (·.1) || (backToKw pos (keywordEach [⟨some kn, e, kpos⟩] X.env)).any (·.1.isNone)) = false := by rfl)
    (he : eval (.Call (.Attribute (.Name x p1) m apos) [] [⟨some kn, e, kpos⟩] pos) X.env = (do
      let ov ← eval (.Name x p1) X.env
      standAt apos.atName
      let (f, first) ← holding [ov] (getMethod ov m pl)
      callWith pos f first (backTo pos (starEach [] X.env)) (backToKw pos (keywordEach [⟨some kn, e, kpos⟩] X.env))) := by rfl) :
    PD p X (.Call (.Attribute (.Name x p1) m apos) [] [⟨some kn, e, kpos⟩] pos) (tCMethK p C wf te) (wCMethK c wf we) := by
  obtain ⟨qa, f, fd, ps, mc, F, R, M, hl, hbd, hm⟩ := G.ex
  refine ⟨⟨fun pins s σ H Q I h => ?_⟩, fun O0 H0 σ H ρ n Q QV S hw kk => ?_⟩
  · refine PySem.W.methodCall_KW (pl := pl) (ld_glob I hg hm ?_ hdb) he
    refine ClX.getmethcm_ok I R M fun s2 I2 => ?_
    have hcw := PySem.W.callWith_of (pos := pos) (f := .ref s.heap.objs.size) (first := []) hpl (PySem.W.keeps_M (K := X.K) (q := s.heap.objs.size) (f := f) (self := .ref C) M.fi)
      (PyProof.Rows.evalArgs_kw2_nil (M := model X.prog X.w) (A := X.A) (E := X.xe) (s := s2) (env := X.env) (pos := pos) (kws := [⟨some kn, e, kpos⟩]) (Q := fun a s₁ => PySem.W.MethP X.K s.heap.objs.size f (.ref C) s₁.heap ∧ wpAny (model X.prog X.w) X.A (call (.ref s.heap.objs.size) ([] ++ a.pos) a.kw) (EP X pins σ Q) X.xe s₁) (by rw [hkw]; rfl) ?_)
    · exact hcw
    · rw [hkw]
      refine wpAny_evalAll_cons (wpAny_bind (thn (hb.pe.run _ s2 σ H _ I2 h) fun v s3 ⟨y, H2, I3, ry, q2⟩ => wpAny_bind (wpAny_standAt (wpAny_pure (wpAny_evalAll_nil ⟨⟨ClX.pin_at I3, I3.kIn⟩, ?_⟩)))))
      have z : wpAny (model X.prog X.w) X.A (call (.ref s.heap.objs.size) [] [(kn, v)]) (EP X ((s.heap.objs.size, PySem.W.methodObj (.ref f) (.ref C)) :: pins) σ Q) X.xe s3 := by
        refine wpAny_call (PySem.W.method_call (ClX.pin_at I3) (codeAny_mono (F.run X.A X.stack s3 H2 ⟨[.ref C], [(kn, v)]⟩ [.ref C, v] [.ref C, y] Q E0 hr I3.env0 (.of_eq (hbd _ _)) (.cons rfl (.cons ry .nil)) q2) fun r s' hq => ?_))
        cases r with
        | error e => exact pass0 _ σ H2 s3 e s' I3 hq
        | ok fl =>
          cases fl with
          | ret u => exact I3.after hq
          | next => exact False.elim hq
          | brk => exact False.elim hq
          | cont => exact False.elim hq
      exact thn z fun _ _ y => ClX.unpinE y
  · refine hb.sim O0 H0 σ H ρ n _ _ S hw fun y ρ1 n1 v H1 q1 S1 r1 x1 => ?_
    exact call_asks (ds := [.cls c, y]) S1 (.cons (show Rp p _ _ (.cls c) (.ref C) from ⟨C, rfl, at_⟩) (.cons r1 rfl)) rfl q1 fun d' n3 v H3 q' S' rv x3 => kk d' ρ1 n3 v H3 q' S' rv (x1.trans x3)
end
end DL
end
section
namespace DL
open PySem L2
theorem int_short {i : Int} (h : i.natAbs < 10 ^ 60) : (PyData.shown (.int i)).length ≤ 61 := by
  have e := int_text_length_le10 (k := 60) (by decide) h
  show (Str.ofString (toString i)).length ≤ 61
  rw [ofString_length]
  exact e
theorem int_log {i : Int} (h : i.natAbs < 10 ^ 60) : i.natAbs.log2 < 1920 := by
  by_cases z : i.natAbs = 0
  · rw [z]
    decide
  · exact (Nat.log2_lt z).mpr (Nat.lt_trans h (by decide +kernel))
/-- data of ints below 10 ^ 60, texts, lists, tuples -/
theorem show_ok {d : PyData} (h1 : d.showable = true) (h2 : d.hasDict = false) (h3 : d.leavesShort 61 = true) (h4 : d.bulk ≤ 1000) (h5 : d.depth ≤ 30) : ShowOk d := by
  refine ⟨h1, h2, ?_, h5⟩
  have := PyData.shown_le_bulk 61 (by decide) d h3
  omega
theorem show_int {i : Int} (h : i.natAbs < 10 ^ 60) : ShowOk (.list [.int i]) := by
  refine show_ok ?_ rfl ?_ (by show 0 + 1 + 0 ≤ 1000; decide) (by show max 0 0 + 1 ≤ 30; decide)
  · show (decide (i.natAbs.log2 < 1920) && true) = true
    rw [decide_eq_true (int_log h)]
    rfl
  · show (decide ((PyData.shown (.int i)).length ≤ 61) && true) = true
    rw [decide_eq_true (int_short h)]
    rfl
end DL
end
section
namespace K22
open PySem L2 DL
def topS (i : Nat) : Stmt := PySem.Challenge.pw_leastlap_k22_moved_and_apart.main.body.getD i (.Pass ⟨0, 0, 0, 0⟩)
/-- the deck: its dict at da, its list of cells at ca; n draws have been made -/
def DeckAt (da ca : Addr) (n : Nat) (H : Hp) : Prop := ∃ (cs : List Int) (m t : Int), H da = some (.dK [(.inr "cells", V.ref ca), (.inr "mixed", V.int m), (.inr "turn", V.int t)]) ∧ H ca = some (.lst (cs.map V.int)) ∧ cs.length ≤ 63 ∧ 0 ≤ m ∧ m < 2147483648 ∧ 0 ≤ t ∧ t ≤ n ∧ da ≠ ca
def clsK (CP CL CN : Addr) : String → Option Addr
  | "Program" => some CP
  | "Placement" => some CL
  | "NoPlacement" => some CN
  | _ => none
def pr (K : PySem.W.Frag) (CP CL CN da ca : Addr) : Par where
  K := K
  cls := clsK CP CL CN
  ext := fun n => if n = 0 then some da else none
  dk := fun b => b = da ∨ b = ca
  At := DeckAt da ca
  keep := fun n H H' k ⟨cs, m, t, h1, h2, r⟩ => ⟨cs, m, t, k _ _ (.inl rfl) h1, k _ _ (.inr rfl) h2, r⟩
  there := fun n H a ⟨cs, m, t, h1, h2, r⟩ h => by
    rcases h with h | h
    · subst h; exact ⟨_, h1⟩
    · subst h; exact ⟨_, h2⟩
/-- _law_draw(deck, many): a number from 0 to many - 1 -/
@[irreducible] def w__law_draw : WF := fun ds n q => ∃ m : Int, ds = [.ext 0, .int m] ∧ 0 < m ∧ m < 2 ^ 64 ∧ n < 1000000 ∧ ∀ k : Int, 0 ≤ k → k < m → q (.int k) (n + 1)

structure Txt (K : PySem.W.Frag) (mg : Str → Option Value) (CP CL CN te : Addr) (tm : Tok) : Prop where
  c_Program : Cls K CP
  c_Placement : Cls K CL
  b_all : mg "all" = none
  b_bool : mg "bool" = none
  b_enumerate : mg "enumerate" = none
  b_int : mg "int" = none
  b_isinstance : mg "isinstance" = none
  b_len : mg "len" = none
  b_list : mg "list" = none
  b_min : mg "min" = none
  b_range : mg "range" = none
  b_max : mg "max" = none
  b_repr : mg "repr" = none
  b_sorted : mg "sorted" = none
  b_str : mg "str" = none
  b_tuple : mg "tuple" = none
  b_zip : mg "zip" = none
  g_GREATEST_RING : GlV mg "GREATEST_RING" (.int 8)
  g_LARGEST : GlV mg "LARGEST" (.int 1000000000000000000)
  g_LETTERS : GlV mg "LETTERS" (.str "abcdefghijklmnopqrstuvwxyzABCDEFGHIJKLMNOPQRSTUVWXYZ")
  g_MOST_LOOPS : GlV mg "MOST_LOOPS" (.int 4)
  g_MOST_READS : GlV mg "MOST_READS" (.int 3)
  g_MOST_STATEMENTS : GlV mg "MOST_STATEMENTS" (.int 8)
  g_OFFSETS : GlV mg "OFFSETS" (.int 10000000000000000000)
  g_ROUND : GlV mg "ROUND" (.int 6)
  na_Program_arrays : NoAttr K CP "arrays"
  na_Program_loops : NoAttr K CP "loops"
  na_Program_outputs : NoAttr K CP "outputs"
  na_Program_writers : NoAttr K CP "writers"
  na_Placement_program : NoAttr K CL "program"
  na_Placement_places : NoAttr K CL "places"
  na_Placement_spots : NoAttr K CL "spots"
  con_Program_MOST : Con K CP "MOST" (.int 6) (.int 6 tm)
  dd : TupK K te []
  os_P : PySem.W.notFirst K CP (.ref CP) = true ∧ PySem.W.notFirst K CP (.ref CL) = true
  os_L : PySem.W.notFirst K CL (.ref CP) = true ∧ PySem.W.notFirst K CL (.ref CL) = true
  cg_Program : GlV mg "Program" (.ref CP)
  cg_Placement : GlV mg "Placement" (.ref CL)
  i_Program : C8.InsC K CP ∧ PySem.W.isClsIn K CP = true ∧ PySem.W.typeIn K (.ref CP) = some (.type "type")
  i_Placement : C8.InsC K CL ∧ PySem.W.isClsIn K CL = true ∧ PySem.W.typeIn K (.ref CL) = some (.type "type")
  s_PL : PySem.W.subIn K (.ref CP) (.ref CL) = some false
  s_LP : PySem.W.subIn K (.ref CL) (.ref CP) = some false
  ne_ : CP ≠ CL
  x1 : PySem.W.excIn K CN [.type "Exception", .type "BaseException", .type "object"] "Exception.__new__" = true
  x2 : mg "NoPlacement" = some (.ref CN)
  x3 : PySem.W.keepIn K (.ref CN) = true
  x4 : PySem.W.subIn K (.ref CN) (.type "BaseException") = some true
  x5 : PySem.W.typeIn K (.ref CN) = some (.type "type")
  xm_NoPlacement : PySem.W.exmOne K (.ref CN) (.ref CN) = some true
section
variable {K : PySem.W.Frag} {mg : Str → Option Value} {CP CL CN te da ca : Addr} {tm : Tok}
theorem Txt.cp_Program (T : Txt K mg CP CL CN te tm) : ClsP (pr K CP CL CN da ca) "Program" CP := ⟨rfl, T.c_Program⟩
theorem Txt.cp_Placement (T : Txt K mg CP CL CN te tm) : ClsP (pr K CP CL CN da ca) "Placement" CL := ⟨rfl, T.c_Placement⟩
theorem Txt.x_NoPlacement (T : Txt K mg CP CL CN te tm) : ExK (pr K CP CL CN da ca) K mg "NoPlacement" "NoPlacement" CN := ⟨rfl, T.x1, T.x2, T.x3, T.x4, T.x5⟩
theorem Txt.dd_Program_2 (T : Txt K mg CP CL CN te tm) (O : Addr → Prop) (H : Hp) : RpL (pr K CP CL CN da ca) O H [.tup []] [.ref te] := .cons ⟨te, [], rfl, .inr T.dd, rfl⟩ rfl
def isiOs : List String := ["Program", "Placement"]
theorem Txt.os_Program (T : Txt K mg CP CL CN te tm) : ∀ o ∈ ["Program", "Placement"], ∃ D, (pr K CP CL CN da ca).cls o = some D ∧ PySem.W.notFirst K CP (.ref D) = true := by
  intro o h
  simp only [List.mem_cons, List.not_mem_nil, or_false] at h
  rcases h with e | e <;> subst e
  · exact ⟨CP, rfl, T.os_P.1⟩
  · exact ⟨CL, rfl, T.os_P.2⟩
theorem Txt.os_Placement (T : Txt K mg CP CL CN te tm) : ∀ o ∈ ["Program", "Placement"], ∃ D, (pr K CP CL CN da ca).cls o = some D ∧ PySem.W.notFirst K CL (.ref D) = true := by
  intro o h
  simp only [List.mem_cons, List.not_mem_nil, or_false] at h
  rcases h with e | e <;> subst e
  · exact ⟨CP, rfl, T.os_L.1⟩
  · exact ⟨CL, rfl, T.os_L.2⟩
theorem Txt.cr_Program (T : Txt K mg CP CL CN te tm) {O : Addr → Prop} {H : Hp} : Rp (pr K CP CL CN da ca) O H (.cls "Program") (.ref CP) := ⟨CP, rfl, rfl⟩
theorem Txt.cr_Placement (T : Txt K mg CP CL CN te tm) {O : Addr → Prop} {H : Hp} : Rp (pr K CP CL CN da ca) O H (.cls "Placement") (.ref CL) := ⟨CL, rfl, rfl⟩
theorem kit_same {K : PySem.W.Frag} {C : Addr} : PySem.W.kitOne K (.ref C) (.ref C) = some true := by
  unfold PySem.W.kitOne
  rw [if_pos (by simp)]
theorem kit_other {K : PySem.W.Frag} {C D : Addr} (ne : D ≠ C) (h1 : PySem.W.isClsIn K C = true) (h2 : PySem.W.typeIn K (.ref C) = some (.type "type")) (h3 : PySem.W.subIn K (.ref D) (.ref C) = some false) : PySem.W.kitOne K (.ref D) (.ref C) = some false := by
  unfold PySem.W.kitOne
  rw [if_neg (by intro z; have := eq_of_beq z; cases this; exact ne rfl)]
  show (if ((PySem.W.clsIn K C).isSome && PySem.W.typeIn K (.ref C) == some (.type "type")) = true then PySem.W.subIn K (.ref D) (.ref C) else none) = some false
  rw [if_pos (by rw [h2]; simpa [PySem.W.isClsIn] using h1)]
  exact h3
theorem Txt.isi (T : Txt K mg CP CL CN te tm) : IsiO (pr K CP CL CN da ca) isiOs := by
  refine ⟨fun c h => ?_, fun c h c' h' C C' e e' => ?_⟩
  · simp only [isiOs, List.mem_cons, List.not_mem_nil, or_false] at h
    rcases h with z | z <;> subst z
    · exact ⟨CP, rfl, T.i_Program⟩
    · exact ⟨CL, rfl, T.i_Placement⟩
  · simp only [isiOs, List.mem_cons, List.not_mem_nil, or_false] at h h'
    rcases h with z | z <;> subst z <;> rcases h' with z | z <;> subst z
    · obtain rfl : CP = C := Option.some.inj e
      obtain rfl : CP = C' := Option.some.inj e'
      exact kit_same
    · obtain rfl : CP = C := Option.some.inj e
      obtain rfl : CL = C' := Option.some.inj e'
      exact kit_other (Ne.symm T.ne_) T.i_Program.2.1 T.i_Program.2.2 T.s_LP
    · obtain rfl : CL = C := Option.some.inj e
      obtain rfl : CP = C' := Option.some.inj e'
      exact kit_other T.ne_ T.i_Placement.2.1 T.i_Placement.2.2 T.s_PL
    · obtain rfl : CL = C := Option.some.inj e
      obtain rfl : CL = C' := Option.some.inj e'
      exact kit_same
end
end K22
end
section
namespace DL
open PySem PySem.Spec L2 PyProof.Rows
section
variable {X : Cx} {e st : Expr} {te ts : TE} {pos p2 : Pos}
/-- xs[::-1] -/
def tRv (K : PySem.W.Frag) (te ts : TE) : TE := fun σ H Q => te σ H fun x H1 => tPart ts σ H1 fun o H2 => o = some (-1) ∧ ∃ a xs, x = .ref a ∧ SqL K H2 a xs ∧ ∀ p, H2 p = none → Q (.ref p) (upd H2 p (.lst xs.reverse))
theorem vals_rev : ∀ {xs : List V} {us : List Value}, L2.Vals xs us → L2.Vals xs.reverse us.reverse
  | _, _, .nil => .nil
  | x :: xs, u :: us, .cons r t => by
    rw [List.reverse_cons, List.reverse_cons]
    exact (vals_rev t).append (.cons r .nil)
theorem pe_rev (he : PE X e te) (hs : PE X st ts) : PE X (.Subscript e (.Slice none none (some st) p2) pos) (tRv X.K te ts) := by
  refine ⟨fun pins s σ H Q I h => ?_⟩
  refine Subscript_ (thn (he.run pins s σ H _ I h) fun v s1 ⟨x, H1, I1, r1, q1⟩ => ?_)
  refine wpAny_Slice ?_
  rw [evalPart_none]
  refine wpAny_pure (wpAny_pure ?_)
  refine thn ((po_some hs).run pins s1 σ H1 _ I1 q1) fun vk s3 ⟨o, H3, I3, pk, q3⟩ => ?_
  obtain ⟨rfl, a, xs, rfl, hx, q⟩ := q3
  obtain rfl : v = Value.ref a := r1
  have I4 : Inv X pins σ H3 { s3 with heap := s3.heap.push { cls := .type "slice", data := .fields #[.none, .none, vk] } } := I3.kept (t' := s3.toks) fun b ob q => Heap.get?_push_of_some _ q
  obtain ⟨its, r, ht, hz⟩ := I4.list hx
  show wpAny (model X.prog X.w) X.A (subscriptTail e (.Slice none none (some st) p2) (.ref a) (.ref s3.heap.objs.size)) (EP X pins σ Q) X.xe { s3 with heap := s3.heap.push { cls := .type "slice", data := .fields #[.none, .none, vk] } }
  refine tail_any (ops := [.ref a, .ref s3.heap.objs.size]) ht.isList.typeIs slot_list_getitem.lookup ?_ (by with_unfolding_all rfl)
  refine wpAny_getItem_list_slice ht.isList (Heap.IsSliceOf.new ..) .none .none pk (by decide) ?_ (by rw [List.size_toArray, ← r.length]; exact hz)
  rw [PySem.W.krv_pick]
  refine ⟨.ref _, _, I4.laid (t' := s3.toks) (o := .lst xs.reverse) (fun b ob q => Heap.get?_push_of_some _ q) (Nat.le_refl _) ?_, rfl, q _ (I4.hok.fresh (Nat.le_refl _))⟩
  refine ⟨by rw [List.length_reverse]; exact hz, its.reverse, 0, vals_rev r, ?_⟩
  exact Heap.get?_push_size _ rfl
end
end DL
namespace K22
open PySem L2 DL StX
open PyProof.Rows (envOfC)
/-- _law_deck(script): the deck at da, its cells at ca -/
def spDeck (K : PySem.W.Frag) : Sp := fun vs H Q _ => ∃ (a : Addr) (ns : List Int), vs = [.ref a] ∧ SqL K H a (ns.map V.int) ∧ ns.length ≤ 63 ∧
  ∀ H' da ca, H da = none → H ca = none → (∀ b o, H b = some o → H' b = some o) → DeckAt da ca 0 H' → Q (.ref da) H'
theorem cut_ints (ns : List Int) (lo hi : Option Int) : ∃ cs : List Int, cutV (ns.map V.int) lo hi = cs.map V.int ∧ cs.length ≤ ns.length := by
  refine ⟨(ns.drop (HT.sIx ns.length 0 lo)).take (HT.sIx ns.length ns.length hi - HT.sIx ns.length 0 lo), ?_, ?_⟩
  · unfold cutV
    simp [List.map_drop, List.map_take]
  · rw [List.length_take, List.length_drop]
    omega
section
variable {P : Program} {w : World} {K : PySem.W.Frag} {mg : Str → Option Value} {base : Heap} {CP CL CN te da ca : Addr} {tm : Tok}
theorem sc__law_deck : FnScope ["_law_script", "_law_cells", "_law_mixed", "_law_cell"] ["_law_script"] (defScope (topS 65)) := ⟨rfl, rfl, rfl, by decide +kernel, rfl, by decide +kernel, by decide +kernel⟩
theorem ok__law_deck {f : Addr} {fd : FuncData} (T : Txt K mg CP CL CN te tm) (F : Fun K "_law_deck" "_law_deck" (topS 65) f fd) : FnOk P w K mg base CX0 1 f fd ["_law_script"] (spDeck K) := by
  have sc := sc__law_deck
  refine F.ok sc (fun vs H Q E h => ?_) (fun cdv A outer s H vs Q E hr h => ⟨_, PSs.nox
    (pss_cons (ps_par rfl sc.nd (i := 1) (j := 2) rfl rfl (by decide) rfl rfl (pa_cons (pe_callTy call_list_of rfl T.b_list (by decide +kernel) (pa_cons (pe_slice sl_list (pv 0) po_none (po_some pe_int)) pa_nil)) (pa_cons pe_int pa_nil)) (by rfl))
    (pss_cons (ps_for PassesOwn.never rfl (pi_list (pv 1)) (pg_name (i := 3) sc.nd rfl (.inl rfl)) (pss_one (ps_set (i := 2) sc.nd rfl (.inl rfl) (pe_op op_mod (pe_callTy call_int1 rfl T.b_int (by decide +kernel) (pa_cons (pe_op op_add (pe_op op_add (pe_op op_mul (pv 2) pe_int) (pv 3)) pe_int) pa_nil)) pe_int))))
    (pss_one (ps_ret (pe_disp (pps_cons pe_str (pe_rev (pv 1) (pe_un un_neg pe_int)) (pps_cons pe_str (pv 2) (pps_cons pe_str pe_int pps_nil))) rfl rfl (fun z => by cases z) (by decide)))))), ?_⟩)
  · obtain ⟨a, ns, rfl, _⟩ := h
    rfl
  obtain ⟨a, ns, rfl, hS, hl, q⟩ := h
  refine ⟨_, rfl, _, rfl, a, _, rfl, hS, fun p hp => ?_⟩
  obtain ⟨cs, ec, lc⟩ := cut_ints ns none (some 63)
  rw [ec]
  refine ⟨p, _, rfl, .inl (SqL.of upd_same), fun l hl' => ?_⟩
  refine ⟨_, _, rfl, ?_⟩
  have hpl : p ≠ l := fun z => by rw [z, upd_same] at hl'; cases hl'
  generalize hH2 : upd (upd H p (.lst (cs.map V.int))) l (.lst (cs.map V.int)) = H2
  have hl0 : H l = none := by rwa [upd_ne (Ne.symm hpl)] at hl'
  have k2 : ∀ b o, H b = some o → H2 b = some o := fun b o e => by
    rw [← hH2, upd_ne (fun z => by rw [z, hl0] at e; cases e), upd_ne (fun z => by rw [z, hp] at e; cases e)]
    exact e
  have l2 : H2 l = some (.lst (cs.map V.int)) := by rw [← hH2, upd_same]
  refine ⟨_, rfl, l, rfl, ⟨_, SqL.of l2⟩, for_list (K := K) (a := l) (xs := cs.map V.int) (fun i σ H' => H' = H2 ∧ ∃ (m : Int) (x : Option V), 0 ≤ m ∧ m < 2147483648 ∧ σ = [some (.ref a), some (.ref l), some (.int m), x]) ⟨rfl, 70657, none, by decide, by decide, rfl⟩ (fun i σ H' _ h => by rw [h.1]; exact SqL.of l2) (fun i x σ H' hx h => ?_) fun σ H' h => ?_⟩
  · obtain ⟨rfl, m, x0, m0, m1, rfl⟩ := h
    rw [List.getElem?_map] at hx
    obtain ⟨c, _, rfl⟩ := Option.map_eq_some_iff.mp hx
    refine ⟨_, rfl, _, _, rfl, rfl, .inl ⟨by omega, by omega⟩, _, rfl, _, _, rfl, rfl, _, _, rfl, rfl, .inl ⟨_, rfl, ?_⟩⟩
    refine ⟨_, _, rfl, rfl, (by show (0 : Int) < 2147483587; decide), ?_⟩
    refine ⟨rfl, _, _, ?_, ?_, rfl⟩
    · exact Int.emod_nonneg _ (by decide)
    · exact Int.lt_trans (Int.emod_lt_of_pos _ (by decide)) (by decide)
  · obtain ⟨rfl, m, x0, m0, m1, rfl⟩ := h
    intro d hd
    refine ⟨_, rfl, _, rfl, _, rfl, rfl, l, _, rfl, SqL.of (by rw [upd_ne (fun z => by rw [← z] at hd; rw [hd] at l2; cases l2)]; exact l2), fun c hc => ?_⟩
    have hcd : c ≠ d := fun z => by rw [z, upd_same] at hc; cases hc
    rw [upd_ne hcd] at hc
    refine ⟨_, rfl, ?_⟩
    refine ⟨by rw [upd_ne (Ne.symm hcd), upd_same], [(.inr "cells", .ref c), (.inr "mixed", .int m), (.inr "turn", .int 0)], rfl, (by show 3 ≤ 15; decide), ?_⟩
    have no : ∀ b, H' b = none → H b = none := fun b e => by
      cases z : H b with
      | none => rfl
      | some o => rw [k2 b o z] at e; cases e
    refine q _ d c (no d hd) (no c hc) (fun b o e => ?_) ⟨cs.reverse, m, 0, ?_, ?_, by rw [List.length_reverse]; omega, m0, m1, Int.le_refl _, Int.le_refl _, Ne.symm hcd⟩
    · have e2 := k2 b o e
      rw [upd_ne (fun z => by rw [z, hd] at e2; cases e2), upd_ne (fun z => by rw [z, hc] at e2; cases e2), upd_ne (fun z => by rw [z, hd] at e2; cases e2)]
      exact e2
    · rw [upd_same]
      rfl
    · rw [upd_ne hcd, upd_same, List.map_reverse]
end
end K22
end
section
set_option maxHeartbeats 1000000
namespace K22
open PySem L2 DL StX
open PyProof.Rows (envOfC)
def deckL (ca : Addr) (m t : Int) : List (Key × V) := [(.inr "cells", V.ref ca), (.inr "mixed", V.int m), (.inr "turn", V.int t)]
theorem val_cells (ca : Addr) (m t : Int) : valV (deckL ca m t) (.inr "cells") = some (.ref ca) := rfl
theorem val_mixed (ca : Addr) (m t : Int) : valV (deckL ca m t) (.inr "mixed") = some (.int m) := rfl
theorem val_turn (ca : Addr) (m t : Int) : valV (deckL ca m t) (.inr "turn") = some (.int t) := rfl
theorem put_turn (ca : Addr) (m t u : Int) : putK (deckL ca m t) (.inr "turn") (.int u) = deckL ca m u := rfl
section
variable {H : Hp} {da ca : Addr} {m t : Int}
theorem get_cells (h : H da = some (.dK (deckL ca m t))) : DGet H da (.str "cells") (some (.ref ca)) := by
  have := DGet.k (k := .inr "cells") h
  rw [val_cells] at this
  exact this
theorem get_mixed (h : H da = some (.dK (deckL ca m t))) : DGet H da (.str "mixed") (some (.int m)) := by
  have := DGet.k (k := .inr "mixed") h
  rw [val_mixed] at this
  exact this
theorem get_turn (h : H da = some (.dK (deckL ca m t))) : DGet H da (.str "turn") (some (.int t)) := by
  have := DGet.k (k := .inr "turn") h
  rw [val_turn] at this
  exact this
theorem put_turn' (u : Int) (h : H da = some (.dK (deckL ca m t))) : DPut H da (.str "turn") (.int u) (upd H da (.dK (deckL ca m u))) := by
  have := DPut.k (k := .inr "turn") (v := .int u) h (by show 3 < sizeLine; decide)
  rw [put_turn] at this
  exact this
end
theorem dp_ints {K : PySem.W.Frag} {H : Hp} : ∀ cs : List Int, DpAll K H (cs.map V.int) (cs.map PyData.int)
  | [] => .nil
  | c :: cs => .cons (.int c) (dp_ints cs)
theorem lay_ints : ∀ cs : List Int, PyData.canLayAll0 (cs.map PyData.int) = true
  | [] => rfl
  | c :: cs => by
    show (PyData.canLay0 (.int c) && PyData.canLayAll0 (cs.map PyData.int)) = true
    rw [lay_ints cs]
    rfl
theorem dep_ints : ∀ cs : List Int, PyData.depthAll (cs.map PyData.int) = 0
  | [] => rfl
  | c :: cs => by
    show max (PyData.depth (.int c)) (PyData.depthAll (cs.map PyData.int)) = 0
    rw [dep_ints cs]
    rfl
theorem shaped_ints (cs : List Int) : SeqAt.shaped (.list (cs.map PyData.int)) = true := by
  show (PyData.canLayAll0 (cs.map PyData.int) && decide (PyData.depthAll (cs.map PyData.int) + 1 ≤ 64)) = true
  rw [lay_ints, dep_ints]
  rfl
theorem eqv_empty (cs : List Int) : (!PyData.eqv (.list (cs.map PyData.int)) (.list [])) = !cs.isEmpty := by
  cases cs with
  | nil => rfl
  | cons c cs => rfl
/-- _law_draw(deck, many) -/
def spDraw (da ca : Addr) : Sp := fun vs H Q _ => ∃ (m : Int) (n : Nat), vs = [.ref da, .int m] ∧ DeckAt da ca n H ∧ 0 < m ∧ m < 2 ^ 64 ∧ n < 1000000 ∧
  ∀ H' k, 0 ≤ k → k < m → (∀ b o, b ≠ da → b ≠ ca → H b = some o → H' b = some o) → DeckAt da ca (n + 1) H' → Q (.int k) H'
theorem emod_b (x : Int) {j : Int} (h : 0 < j) : 0 ≤ x % j ∧ x % j < j := ⟨Int.emod_nonneg _ (by omega), Int.emod_lt_of_pos _ h⟩
theorem getElem?_last (c : Int) (cs : List Int) : (List.map V.int (c :: cs))[(List.map V.int (c :: cs)).length - 1]? = some (V.int ((c :: cs).getLast (by simp))) := by
  rw [← List.getLast?_eq_getElem?, List.getLast?_map, List.getLast?_eq_some_getLast (by simp)]
  rfl
section
variable {P : Program} {w : World} {K : PySem.W.Frag} {mg : Str → Option Value} {base : Heap} {CP CL CN te da ca : Addr} {tm : Tok}
theorem sc__law_draw : FnScope ["_law_deck_here", "_law_many", "_law_turn", "_law_cell", "_law_mixed"] ["_law_deck_here", "_law_many"] (defScope (topS 66)) := ⟨rfl, rfl, rfl, by decide +kernel, rfl, by decide +kernel, by decide +kernel⟩
theorem ok0__law_draw {f : Addr} {fd : FuncData} (T : Txt K mg CP CL CN te tm) (F : Fun K "_law_draw" "_law_draw" (topS 66) f fd) : FnOk P w K mg base CX0 1 f fd ["_law_deck_here", "_law_many"] (spDraw da ca) := by
  have sc := sc__law_draw
  refine F.ok sc (fun vs H Q E h => ?_) (fun cdv A outer s H vs Q E hr h => ?_)
  · obtain ⟨m, n, rfl, _⟩ := h
    rfl
  have hu := hu_of hr
  refine ⟨_, PSs.nox
    (pss_cons (ps_par rfl sc.nd (i := 2) (j := 3) rfl rfl (by decide) rfl rfl (pa_cons (pe_op op_add (pe_dget hu (pv 0) pe_str (fun _ _ => rfl)) pe_int) (pa_cons (pe_dget hu (pv 0) pe_str (fun _ _ => rfl)) pa_nil)) (by rfl))
    (pss_cons (ps_dput hu (pv 0) pe_str (pv 2) rfl)
    (pss_cons (ps_if (pt_cmpR (op_neD hr.units) (pe_dget hu (pv 0) pe_str (fun _ _ => rfl)) (pe_lst pa_nil) (nomark _))
      (pss_cons (ps_set (i := 3) sc.nd rfl (.inl rfl) (pe_bm0 PySem.F.plainAttrs_list PySem.F.slot_list_pop PySem.F.type_list_pop mt_pop (pe_dget hu (pv 0) pe_str (fun _ _ => rfl))))
      (pss_cons (ps_if (pt_cmpR op_ge (pv 3) (pe_op op_pow pe_int pe_int) (nomark _))
        (pss_cons (ps_expr (pe_bm PySem.F.plainAttrs_list PySem.F.slot_list_append PySem.F.type_list_append mt_append (pe_dget hu (pv 0) pe_str (fun _ _ => rfl)) (pa_cons (pe_op op_fdivW (pe_callTy call_int1 rfl T.b_int (by decide +kernel) (pa_cons (pv 3) pa_nil)) (pv 1)) pa_nil)))
        (pss_one (ps_ret (pe_op op_mod (pe_callTy call_int1 rfl T.b_int (by decide +kernel) (pa_cons (pv 3) pa_nil)) (pv 1))))) pss_nil)
      (pss_one (ps_set (i := 3) sc.nd rfl (.inl rfl) (pe_op op_add (pv 3) (pe_dget hu (pv 0) pe_str (fun _ _ => rfl))))))) pss_nil)
    (pss_cons (ps_set (i := 4) sc.nd rfl (.inl rfl) (pe_op op_mod (pe_callTy call_int1 rfl T.b_int (by decide +kernel) (pa_cons (pe_op op_mul (pe_op op_add (pe_op op_add (pe_op op_mod (pe_callTy call_int1 rfl T.b_int (by decide +kernel) (pa_cons (pv 3) pa_nil)) pe_int) (pe_op op_mul (pe_op op_mul pe_int (pv 2)) (pv 2))) pe_int) pe_int) pa_nil)) pe_int))
    (pss_cons (ps_set (i := 4) sc.nd rfl (.inl rfl) (pe_op op_mod (pe_callTy call_int1 rfl T.b_int (by decide +kernel) (pa_cons (pe_op op_add (pe_op op_add (pe_op op_mul (pv 4) (pv 4)) (pe_op op_mul pe_int (pv 2))) pe_int) pa_nil)) pe_int))
    (pss_one (ps_ret (pe_op op_mod (pe_callTy call_int1 rfl T.b_int (by decide +kernel) (pa_cons (pe_op op_fdiv (pe_op op_mod (pe_callTy call_int1 rfl T.b_int (by decide +kernel) (pa_cons (pe_op op_mul (pv 4) pe_int) pa_nil)) pe_int) pe_int) pa_nil)) (pv 1))))))))), ?_⟩
  obtain ⟨m, n, rfl, ⟨cs, mx, t, h1, h2, hcs, x0, x1, t0, t1, hne⟩, m0, m1, hn, q⟩ := h
  have h1 : H da = some (.dK (deckL ca mx t)) := h1
  -- the last three rows, from any heap
  refine ⟨_, rfl, da, _, rfl, get_turn h1, _, _, rfl, rfl, _, rfl, da, _, rfl, get_mixed h1, _, _, rfl, ?_⟩
  refine ⟨_, rfl, _, rfl, da, _, rfl, put_turn' _ h1, ?_⟩
  generalize hH1 : upd H da (.dK (deckL ca mx (t + 1))) = H1
  have e1 : H1 da = some (.dK (deckL ca mx (t + 1))) := by rw [← hH1, upd_same]
  have e2 : H1 ca = some (.lst (cs.map V.int)) := by rw [← hH1, upd_ne (Ne.symm hne)]; exact h2
  have k1 : ∀ b o, b ≠ da → b ≠ ca → H b = some o → H1 b = some o := fun b o n1 _ e => by rw [← hH1, upd_ne n1]; exact e
  refine ⟨_, rfl, da, _, rfl, get_cells e1, (by decide), fun e he => ?_⟩
  generalize hH2 : upd H1 e (.lst []) = H2
  have ed : da ≠ e := fun z => by rw [← z, e1] at he; cases he
  have ec : ca ≠ e := fun z => by rw [← z, e2] at he; cases he
  have f1 : H2 da = some (.dK (deckL ca mx (t + 1))) := by rw [← hH2, upd_ne ed]; exact e1
  have f2 : H2 ca = some (.lst (cs.map V.int)) := by rw [← hH2, upd_ne ec]; exact e2
  have k2 : ∀ b o, b ≠ da → b ≠ ca → H b = some o → H2 b = some o := fun b o n1 n2 z => by
    have z1 := k1 b o n1 n2 z
    rw [← hH2, upd_ne (fun y => by rw [y, he] at z1; cases z1)]
    exact z1
  have fe : H2 e = some (.lst []) := by rw [← hH2, upd_same]
  refine ⟨.list (cs.map PyData.int), .list [], .lst (SqL.of f2) (dp_ints cs), .lst (SqL.of fe) .nil, shaped_ints cs, rfl, _, rfl, ?_⟩
  rw [eqv_empty]
  have tb : 0 ≤ t + 1 ∧ t + 1 ≤ 1000000 := by omega
  rcases cs with _ | ⟨c0, cs0⟩
  · refine iteF ?_
    obtain ⟨cs', g2, g3⟩ : ∃ (cs' : List Int), H2 ca = some (.lst (cs'.map V.int)) ∧ cs'.length ≤ 63 := ⟨[], f2, by decide⟩
    have g1 := f1
    have k3 := k2
    refine ⟨_, rfl, .inl ⟨_, rfl, ?_⟩⟩
    refine ⟨_, _, rfl, rfl, (by show (0 : Int) < 2147483629; decide), ?_⟩
    refine ⟨_, rfl, _, _, rfl, rfl, .inl ⟨by decide, by decide⟩, _, rfl, _, _, rfl, rfl, .inl ⟨by omega, by omega⟩, ?_⟩
    refine ⟨_, _, rfl, rfl, _, _, rfl, rfl, _, _, rfl, rfl, .inr ⟨by decide, by decide⟩, .inl ⟨_, rfl, ?_⟩⟩
    refine ⟨_, _, rfl, rfl, (by show (0 : Int) < 2147483647; decide), ?_⟩
    refine ⟨_, rfl, _, rfl, _, _, rfl, rfl, .inl ⟨Int.lt_of_lt_of_le (by decide : (-(2 ^ 64) : Int) < 0) (Int.emod_nonneg _ (by decide)), Int.lt_trans (Int.emod_lt_of_pos _ (by decide)) (by decide)⟩, ?_⟩
    refine ⟨_, rfl, _, _, rfl, rfl, .inl ⟨by decide, by decide⟩, _, _, rfl, rfl, _, _, rfl, rfl, .inl ⟨_, rfl, ?_⟩⟩
    refine ⟨_, _, rfl, rfl, (by show (0 : Int) < 2147483587; decide), ?_⟩
    refine ⟨_, rfl, _, _, rfl, rfl, .inr ⟨by decide, by decide⟩, .inl ⟨_, rfl, ?_⟩⟩
    refine ⟨_, _, rfl, rfl, (by show (0 : Int) < 2147483563; decide), ?_⟩
    refine ⟨_, _, rfl, rfl, ⟨by decide, by decide⟩, .inl ⟨_, rfl, ?_⟩⟩
    refine ⟨_, rfl, _, _, rfl, rfl, m0, ?_⟩
    exact q _ _ (Int.emod_nonneg _ (by omega)) (Int.emod_lt_of_pos _ m0) k3 ⟨cs', mx, t + 1, g1, g2, g3, x0, x1, by omega, by omega, hne⟩
  · refine iteT ?_
    refine ⟨_, rfl, da, _, rfl, get_cells f1, .inl ⟨rfl, _, SqL.of f2⟩, ca, _, _, rfl, rfl, f2, getElem?_last _ _, ?_⟩
    generalize hH4 : upd H2 ca (.lst (List.map V.int (c0 :: cs0)).dropLast) = H4
    generalize (c0 :: cs0).getLast (by simp) = c
    have g1 : H4 da = some (.dK (deckL ca mx (t + 1))) := by rw [← hH4, upd_ne hne]; exact f1
    obtain ⟨cs', g2, g3⟩ : ∃ (cs' : List Int), H4 ca = some (.lst (cs'.map V.int)) ∧ cs'.length < 63 := ⟨(c0 :: cs0).dropLast, by rw [← hH4, upd_same, List.map_dropLast], by rw [List.length_dropLast]; omega⟩
    have k3 : ∀ b o, b ≠ da → b ≠ ca → H b = some o → H4 b = some o := fun b o n1 n2 z => by
      rw [← hH4, upd_ne n2]
      exact k2 b o n1 n2 z
    refine ⟨_, rfl, _, _, rfl, rfl, ⟨by decide, by decide, by decide⟩, _, _, rfl, rfl, _, rfl, ite2 (fun hc => ?_) (fun hc => ?_)⟩
    · refine ⟨_, rfl, da, _, rfl, get_cells g1, .inl ⟨rfl, _, SqL.of g2⟩, _, rfl, .inl ⟨_, rfl, ?_⟩⟩
      refine ⟨_, rfl, _, _, rfl, rfl, wide_div m0 (b := 64) (by omega) (by decide) (by decide), ?_⟩
      refine ⟨ca, _, _, rfl, rfl, g2, Nat.lt_of_lt_of_le (show (List.map V.int cs').length < 63 by rw [List.length_map]; exact g3) (by decide), ?_⟩
      refine ⟨_, rfl, .inl ⟨_, rfl, _, rfl, _, _, rfl, rfl, m0, ?_⟩⟩
      refine q _ _ (Int.emod_nonneg _ (by omega)) (Int.emod_lt_of_pos _ m0) (fun b o n1 n2 z => by rw [upd_ne n2]; exact k3 b o n1 n2 z) ⟨cs' ++ [c / m], mx, t + 1, by rw [upd_ne hne]; exact g1, by rw [upd_same, List.map_append]; rfl, by rw [List.length_append]; simp; omega, x0, x1, by omega, by omega, hne⟩
    · refine ⟨_, rfl, _, rfl, da, _, rfl, get_mixed g1, _, _, rfl, rfl, ?_⟩
      have g3 : cs'.length ≤ 63 := by omega
      refine ⟨_, rfl, .inl ⟨_, rfl, ?_⟩⟩
      refine ⟨_, _, rfl, rfl, (by show (0 : Int) < 2147483629; decide), ?_⟩
      refine ⟨_, rfl, _, _, rfl, rfl, .inl ⟨by decide, by decide⟩, _, rfl, _, _, rfl, rfl, .inl ⟨by omega, by omega⟩, ?_⟩
      refine ⟨_, _, rfl, rfl, _, _, rfl, rfl, _, _, rfl, rfl, .inr ⟨by decide, by decide⟩, .inl ⟨_, rfl, ?_⟩⟩
      refine ⟨_, _, rfl, rfl, (by show (0 : Int) < 2147483647; decide), ?_⟩
      refine ⟨_, rfl, _, rfl, _, _, rfl, rfl, .inl ⟨Int.lt_of_lt_of_le (by decide : (-(2 ^ 64) : Int) < 0) (Int.emod_nonneg _ (by decide)), Int.lt_trans (Int.emod_lt_of_pos _ (by decide)) (by decide)⟩, ?_⟩
      refine ⟨_, rfl, _, _, rfl, rfl, .inl ⟨by decide, by decide⟩, _, _, rfl, rfl, _, _, rfl, rfl, .inl ⟨_, rfl, ?_⟩⟩
      refine ⟨_, _, rfl, rfl, (by show (0 : Int) < 2147483587; decide), ?_⟩
      refine ⟨_, rfl, _, _, rfl, rfl, .inr ⟨by decide, by decide⟩, .inl ⟨_, rfl, ?_⟩⟩
      refine ⟨_, _, rfl, rfl, (by show (0 : Int) < 2147483563; decide), ?_⟩
      refine ⟨_, _, rfl, rfl, ⟨by decide, by decide⟩, .inl ⟨_, rfl, ?_⟩⟩
      refine ⟨_, rfl, _, _, rfl, rfl, m0, ?_⟩
      exact q _ _ (Int.emod_nonneg _ (by omega)) (Int.emod_lt_of_pos _ m0) k3 ⟨cs', mx, t + 1, g1, g2, g3, x0, x1, by omega, by omega, hne⟩
end
end K22
end
section
namespace DL
open PySem
section
variable (ρ : Sl) (n : Nat) (Q : WQ) (q : EndsD)
@[simp] theorem wVar_ (i : Nat) : wVar i ρ n Q = (match ρ[i]? with
  | some (.val d) => Q d ρ n
  | some (.own d) => Q d (ρ.set i (.val d)) n
  | _ => False) := rfl
@[simp] theorem wC_ (d : D) : wC d ρ n Q = Q d ρ n := rfl
@[simp] theorem wOp_ (g : D → D → Option D) (a b : WE) : wOp g a b ρ n Q = a ρ n fun x ρ1 n1 => b ρ1 n1 fun y ρ2 n2 => opt (g x y) fun d => Q d ρ2 n2 := rfl
@[simp] theorem wUn_ (g : D → Option D) (a : WE) : wUn g a ρ n Q = a ρ n fun x ρ1 n1 => opt (g x) fun d => Q d ρ1 n1 := rfl
@[simp] theorem wTest_ (a : WE) (R : Bool → Sl → Nat → Prop) : wTest a ρ n R = a ρ n fun d ρ' n' => onB d fun b => R b ρ' n' := rfl
@[simp] theorem wChain_ (g g' : D → D → Option D) (a b c : WE) : wChain g g' a b c ρ n Q = a ρ n fun x ρ1 n1 => b ρ1 n1 fun y ρ2 n2 => opt (g x y) fun d => onB d fun k => if k = true then c ρ2 n2 (fun z ρ3 n3 => opt (g' y z) fun d' => Q d' ρ3 n3) else Q (.bl false) ρ2 n2 := rfl
@[simp] theorem wAnd_ (a b : WE) : wAnd a b ρ n Q = a ρ n fun x ρ1 n1 => onB x fun c => if c = true then b ρ1 n1 Q else Q (.bl false) ρ1 n1 := rfl
@[simp] theorem wOr_ (a b : WE) : wOr a b ρ n Q = a ρ n fun x ρ1 n1 => onB x fun c => if c = true then Q (.bl true) ρ1 n1 else b ρ1 n1 Q := rfl
@[simp] theorem wNot_ (a : WE) : wNot a ρ n Q = a ρ n fun x ρ1 n1 => onB x fun c => Q (.bl (!c)) ρ1 n1 := rfl
@[simp] theorem vAnd_ (a b : WT) (R : Bool → Sl → Nat → Prop) : vAnd a b ρ n R = a ρ n fun c ρ1 n1 => if c = true then b ρ1 n1 R else R false ρ1 n1 := rfl
@[simp] theorem vOr_ (a b : WT) (R : Bool → Sl → Nat → Prop) : vOr a b ρ n R = a ρ n fun c ρ1 n1 => if c = true then R true ρ1 n1 else b ρ1 n1 R := rfl
@[simp] theorem vNot_ (a : WT) (R : Bool → Sl → Nat → Prop) : vNot a ρ n R = a ρ n fun c ρ1 n1 => R (!c) ρ1 n1 := rfl
@[simp] theorem wIf_ (c : WT) (a b : WE) : wIf c a b ρ n Q = c ρ n fun k ρ1 n1 => if k = true then a ρ1 n1 Q else b ρ1 n1 Q := rfl
@[simp] theorem wNil_ (R : List D → Sl → Nat → Prop) : wNil ρ n R = R [] ρ n := rfl
@[simp] theorem wCons_ (a : WE) (w : WA) (R : List D → Sl → Nat → Prop) : wCons a w ρ n R = a ρ n fun d ρ1 n1 => w ρ1 n1 fun ds ρ2 n2 => R (d :: ds) ρ2 n2 := rfl
@[simp] theorem wTup_ (w : WA) : wTup w ρ n Q = w ρ n fun ds ρ1 n1 => ds.length ≤ 100000 ∧ Q (.tup ds) ρ1 n1 := rfl
@[simp] theorem wLst_ (w : WA) : wLst w ρ n Q = w ρ n fun ds ρ1 n1 => ds.length ≤ 100000 ∧ Q (.lst ds) ρ1 n1 := rfl
@[simp] theorem wCB_ (g : List D → Option D) (w : WA) : wCB g w ρ n Q = w ρ n fun as ρ1 n1 => opt (g as) fun d => Q d ρ1 n1 := rfl
@[simp] theorem wCF_ (g : List D → Option (List D)) (w : WA) : wCF g w ρ n Q = w ρ n fun as ρ1 n1 => opt (g as) fun ds => Q (.lst ds) ρ1 n1 := rfl
@[simp] theorem wCallF_ (wf : WF) (dds : List D) (w : WA) : wCallF wf dds w ρ n Q = w ρ n fun as ρ1 n1 => wf (as ++ dds) n1 fun d n2 => Q d ρ1 n2 := rfl
@[simp] theorem wLen_ (N : Nat) (wf : WF) (ds : List D) (R : D → Nat → Prop) : wLen N wf ds n R = (ds.length = N ∧ wf ds n R) := rfl
@[simp] theorem wMeth_ (c m : String) (wf : WF) (dds : List D) (we : WE) (w : WA) : wMeth c m wf dds we w ρ n Q = we ρ n fun d ρ1 n1 => onO c m d (w ρ1 n1 fun as ρ2 n2 => wf (d :: (as ++ dds)) n2 fun r n3 => Q r ρ2 n3) := rfl
@[simp] theorem wMake_ (wi : WI0) (dds : List D) (w : WA) : wMake wi dds w ρ n Q = w ρ n fun as ρ1 n1 => wi (as ++ dds) n1 fun d n2 => Q d ρ1 n2 := rfl
@[simp] theorem wSt_ (m : Nat) (wf : WF) (ds : List D) (R : D → Nat → Prop) : wSt m wf ds n R = ((m ≤ ds.length ∧ ds.length ≤ 100000) ∧ wf (ds.take m ++ [.tup (ds.drop m)]) n R) := rfl
@[simp] theorem wNo_ (R : Option Int → Sl → Nat → Prop) : wNo ρ n R = R none ρ n := rfl
@[simp] theorem wPart_ (w : WE) (R : Option Int → Sl → Nat → Prop) : wPart w ρ n R = w ρ n fun d ρ1 n1 => onI d fun i => R (some i) ρ1 n1 := rfl
@[simp] theorem wSl_ (a : WE) (l h : WO) : wSl a l h ρ n Q = a ρ n fun d ρ1 n1 => l ρ1 n1 fun l ρ2 n2 => h ρ2 n2 fun h ρ3 n3 => opt (gCut d l h) fun d' => Q d' ρ3 n3 := rfl
@[simp] theorem wSlL_ (a : WE) (l h : WO) : wSlL a l h ρ n Q = a ρ n fun d ρ1 n1 => l ρ1 n1 fun l ρ2 n2 => h ρ2 n2 fun h ρ3 n3 => opt (gCutL d l h) fun d' => Q d' ρ3 n3 := rfl
@[simp] theorem wSkip_ : wSkip q ρ n = q.nx ρ n := rfl
@[simp] theorem wSeq_ (w z : WS) : wSeq w z q ρ n = w { q with nx := z q } ρ n := rfl
@[simp] theorem wBrk_ : wBrk q ρ n = q.bk ρ n := rfl
@[simp] theorem wCnt_ : wCnt q ρ n = q.ct ρ n := rfl
@[simp] theorem wExpr_ (a : WE) : wExpr a q ρ n = a ρ n fun _ ρ1 n1 => q.nx ρ1 n1 := rfl
@[simp] theorem wRet_ (a : WE) : wRet a q ρ n = a ρ n fun d _ n1 => q.rt d n1 := rfl
@[simp] theorem wRetN_ : wRetN q ρ n = q.rt .non n := rfl
@[simp] theorem wIfS_ (c : WT) (w z : WS) : wIfS c w z q ρ n = c ρ n fun k ρ1 n1 => if k = true then w q ρ1 n1 else z q ρ1 n1 := rfl
@[simp] theorem wAsg_ (a : WE) (wg : WG) : wAsg a wg q ρ n = a ρ n fun d ρ1 n1 => wg d ρ1 n1 q.nx := rfl
@[simp] theorem wSetO_ (i : Nat) (a : WE) : wSetO i a q ρ n = a ρ n fun d ρ1 n1 => i < ρ1.length ∧ q.nx (ρ1.set i (.own d)) n1 := rfl
@[simp] theorem wName_ (i : Nat) (d : D) (R : Sl → Nat → Prop) : wName i d ρ n R = (i < ρ.length ∧ R (ρ.set i (.val d)) n) := rfl
@[simp] theorem wNilG_ (ds : List D) (R : Sl → Nat → Prop) : wNilG ds ρ n R = (ds = [] ∧ R ρ n) := rfl
@[simp] theorem wConsG_ (g : WG) (r : WGs) (d : D) (ds : List D) (R : Sl → Nat → Prop) : wConsG g r (d :: ds) ρ n R = g d ρ n fun ρ1 n1 => r ds ρ1 n1 R := rfl
@[simp] theorem wTupG_ (k : Nat) (r : WGs) (ds : List D) (R : Sl → Nat → Prop) : wTupG k r (.tup ds) ρ n R = (ds.length = k ∧ r ds ρ n R) := rfl
@[simp] theorem wFor_ (wi : WI) (wg : WG) (wb : WS) : wFor wi wg wb q ρ n = wi ρ n fun ds ρ1 n1 => loopW wg wb q ds ρ1 n1 := rfl
@[simp] theorem wLc_ (wi : WI) (wg : WG) (wt : WT) (we : WE) (vs : List Nat) : wLc wi wg wt we vs ρ n Q = wi ρ n fun ds ρ1 n1 => noOwn ρ1 vs = true ∧ compW wg wt we vs ds [] (wipeS ρ1 vs) n1 fun acc ρ2 n2 => noOwn ρ2 vs = true ∧ ρ2.length = ρ1.length ∧ Q (.lst acc) (backS ρ1 ρ2 vs) n2 := rfl
@[simp] theorem wDc_ (wi : WI) (wg : WG) (wt : WT) (wk wv : WE) (vs : List Nat) : wDc wi wg wt wk wv vs ρ n Q = wi ρ n fun ds ρ1 n1 => noOwn ρ1 vs = true ∧ compDW wg wt wk wv vs ds [] [] (wipeS ρ1 vs) n1 fun ks acc ρ2 n2 => noOwn ρ2 vs = true ∧ ρ2.length = ρ1.length ∧ Q (.dic ks acc) (backS ρ1 ρ2 vs) n2 := rfl
@[simp] theorem iL_ (a : WE) (R : List D → Sl → Nat → Prop) : iL a ρ n R = a ρ n fun d ρ1 n1 => onL d fun ds => R ds ρ1 n1 := rfl
@[simp] theorem iT_ (a : WE) (R : List D → Sl → Nat → Prop) : iT a ρ n R = a ρ n fun d ρ1 n1 => onT d fun ds => R ds ρ1 n1 := rfl
@[simp] theorem iS_ (a : WE) (R : List D → Sl → Nat → Prop) : iS a ρ n R = a ρ n fun d ρ1 n1 => onS d fun z => R (signsD z) ρ1 n1 := rfl
@[simp] theorem wPar_ (i j : Nat) (w : WA) : wPar i j w q ρ n = w ρ n fun ds ρ1 n1 => (match ds with
  | [a, b] => i < ρ1.length ∧ j < ρ1.length ∧ q.nx ((ρ1.set i (.val a)).set j (.val b)) n1
  | _ => False) := rfl
@[simp] theorem wPar3_ (i j l : Nat) (w : WA) : wPar3 i j l w q ρ n = w ρ n fun ds ρ1 n1 => (match ds with
  | [a, b, c] => i < ρ1.length ∧ j < ρ1.length ∧ l < ρ1.length ∧ q.nx (((ρ1.set i (.val a)).set j (.val b)).set l (.val c)) n1
  | _ => False) := rfl
@[simp] theorem wParFF_ (i j : Nat) (a b : WE) : wParFF i j a b q ρ n = a ρ n fun d ρ1 n1 => b ρ1 n1 fun d' ρ2 n2 => i < ρ2.length ∧ j < ρ2.length ∧ q.nx ((ρ2.set i (.own d)).set j (.own d')) n2 := rfl
@[simp] theorem wFldS_ (i : Nat) (c f : String) (a : WE) : wFldS i c f a q ρ n = a ρ n fun d ρ1 n1 => (match ρ1[i]? with
  | some (.own (.obj c' ns ds)) => c' = c ∧ ns.length < 100 ∧ q.nx (ρ1.set i (.own (.obj c (putN f ns) (putDs f d ns ds)))) n1
  | _ => False) := rfl
@[simp] theorem wApp_ (i : Nat) (a : WE) : wApp i a ρ n Q = (match ρ[i]? with
  | some (.own (.lst ds)) => a ρ n fun d ρ1 n1 => (match ρ1[i]? with
    | some (.own (.lst es)) => es = ds ∧ ds.length < 100000 ∧ Q .non (ρ1.set i (.own (.lst (ds ++ [d])))) n1
    | _ => False)
  | _ => False) := rfl
@[simp] theorem wStar_tup (ds : List D) (w : WA) (R : List D → Sl → Nat → Prop) : wStar (wC (.tup ds)) w ρ n R = w ρ n fun as ρ2 n2 => R (ds ++ as) ρ2 n2 := rfl
end
@[simp] theorem gEq_int (i j : Int) : gEq (.int i) (.int j) = some (.bl (decide (i = j))) := rfl
@[simp] theorem gNe_int (i j : Int) : gNe (.int i) (.int j) = some (.bl (!decide (i = j))) := rfl
end DL
end
section
namespace DL
open PySem
theorem comp_map {wg : WG} {we : WE} {vs : List Nat} {ρ : Sl} {n : Nat} {Q : List D → Sl → Nat → Prop} (f : D → D) : ∀ (ds acc : List D),
    (∀ d ∈ ds, ∀ R : WQ, (∀ ρ', noOwn ρ' vs = true → wipeS ρ' vs = ρ → R (f d) ρ' n) → wg d ρ n fun ρ1 n1 => we ρ1 n1 R) → acc.length + ds.length ≤ 100000 → Q (acc ++ ds.map f) ρ n → compW wg vYes we vs ds acc ρ n Q
  | [], acc, _, _, h => by simpa [compW] using h
  | d :: ds, acc, hs, hl, h => by
    show wg d ρ n fun ρ1 n1 => we ρ1 n1 fun y ρ3 n3 => acc.length < 100000 ∧ noOwn ρ3 vs = true ∧ compW wg vYes we vs ds (acc ++ [y]) (wipeS ρ3 vs) n3 Q
    refine hs d List.mem_cons_self _ fun ρ' h1 h2 => ⟨by simp at hl; omega, h1, ?_⟩
    rw [h2]
    refine comp_map f ds (acc ++ [f d]) (fun d' hd => hs d' (List.mem_cons_of_mem _ hd)) (by simp at hl ⊢; omega) ?_
    simpa using h
theorem comp_filter {wg : WG} {wt : WT} {we : WE} {vs : List Nat} {ρ : Sl} {n : Nat} {Q : List D → Sl → Nat → Prop} (t : D → Bool) (f : D → D) : ∀ (ds acc : List D),
    (∀ d ∈ ds, ∀ (R : WQ) (Z : Sl → Nat → Prop), (t d = true → ∀ ρ', noOwn ρ' vs = true → wipeS ρ' vs = ρ → R (f d) ρ' n) → (t d = false → ∀ ρ', noOwn ρ' vs = true → wipeS ρ' vs = ρ → Z ρ' n) → wg d ρ n fun ρ1 n1 => wt ρ1 n1 fun b ρ2 n2 => if b = true then we ρ2 n2 R else Z ρ2 n2) →
    acc.length + ds.length ≤ 100000 → Q (acc ++ (ds.filter t).map f) ρ n → compW wg wt we vs ds acc ρ n Q
  | [], acc, _, _, h => by simpa [compW] using h
  | d :: ds, acc, hs, hl, h => by
    unfold compW
    refine hs d List.mem_cons_self _ (fun ρ2 n2 => noOwn ρ2 vs = true ∧ compW wg wt we vs ds acc (wipeS ρ2 vs) n2 Q) (fun ht ρ' h1 h2 => ⟨by simp at hl; omega, h1, ?_⟩) fun ht ρ' h1 h2 => ⟨h1, ?_⟩
    · rw [h2]
      refine comp_filter t f ds (acc ++ [f d]) (fun d' hd => hs d' (List.mem_cons_of_mem _ hd)) (by simp at hl ⊢; omega) ?_
      simpa [List.filter_cons, ht] using h
    · rw [h2]
      refine comp_filter t f ds acc (fun d' hd => hs d' (List.mem_cons_of_mem _ hd)) (by simp at hl ⊢; omega) ?_
      simpa [List.filter_cons, ht] using h
/-- what each turn gives is told by I (turn, the list so far, the draws) -/
theorem comp_gen {wg : WG} {we : WE} {vs : List Nat} {ρ : Sl} {Q : List D → Sl → Nat → Prop} (I : Nat → List D → Nat → Prop) (ds : List D) (hl : ds.length ≤ 100000)
    (hs : ∀ i d acc n, ds[i]? = some d → I i acc n → acc.length = i → ∀ R : WQ, (∀ y ρ' n', I (i + 1) (acc ++ [y]) n' → noOwn ρ' vs = true → wipeS ρ' vs = ρ → R y ρ' n') → wg d ρ n fun ρ1 n1 => we ρ1 n1 R)
    (hQ : ∀ acc n, I ds.length acc n → acc.length = ds.length → Q acc ρ n) : ∀ n, I 0 [] n → compW wg vYes we vs ds [] ρ n Q := by
  have key : ∀ (es : List D) (i : Nat) (acc : List D) (n : Nat), es = ds.drop i → i + es.length = ds.length → acc.length = i → I i acc n → compW wg vYes we vs es acc ρ n Q := by
    intro es
    induction es with
    | nil =>
      intro i acc n _ hi ha hI
      have : i = ds.length := by simpa using hi
      subst this
      exact hQ acc n hI ha
    | cons d es ih =>
      intro i acc n he hi ha hI
      show wg d ρ n fun ρ1 n1 => we ρ1 n1 fun y ρ3 n3 => acc.length < 100000 ∧ noOwn ρ3 vs = true ∧ compW wg vYes we vs es (acc ++ [y]) (wipeS ρ3 vs) n3 Q
      have hd : ds[i]? = some d := by
        have := congrArg (fun l => l[0]?) he
        simpa using this.symm
      simp only [List.length_cons] at hi
      refine hs i d acc n hd hI ha _ fun y ρ' n' h1 h2 h3 => ⟨by omega, h2, ?_⟩
      rw [h3]
      refine ih (i + 1) (acc ++ [y]) n' ?_ (by omega) (by simp [ha]) h1
      have := congrArg List.tail he
      simpa using this
  intro n h
  exact key ds 0 [] n (by simp) (by simp) rfl h
/-- a for loop, I told by the turn -/
theorem loop_inv {wg : WG} {wb : WS} {q : EndsD} (I : Nat → Sl → Nat → Prop) (ds : List D)
    (hs : ∀ i d ρ n, ds[i]? = some d → I i ρ n → ∀ Z : Sl → Nat → Prop, (∀ ρ' n', I (i + 1) ρ' n' → Z ρ' n') → wg d ρ n fun ρ' n' => wb { nx := Z, ct := Z, bk := q.nx, rt := q.rt, xc := q.xc } ρ' n')
    (hq : ∀ ρ n, I ds.length ρ n → q.nx ρ n) : ∀ ρ n, I 0 ρ n → loopW wg wb q ds ρ n := by
  have key : ∀ (es : List D) (i : Nat) (ρ : Sl) (n : Nat), es = ds.drop i → i + es.length = ds.length → I i ρ n → loopW wg wb q es ρ n := by
    intro es
    induction es with
    | nil =>
      intro i ρ n _ hi hI
      have : i = ds.length := by simpa using hi
      subst this
      exact hq ρ n hI
    | cons d es ih =>
      intro i ρ n he hi hI
      have hd : ds[i]? = some d := by
        have := congrArg (fun l => l[0]?) he
        simpa using this.symm
      simp only [List.length_cons] at hi
      refine hs i d ρ n hd hI (loopW wg wb q es) fun ρ' n' h => ih (i + 1) ρ' n' ?_ (by omega) h
      have := congrArg List.tail he
      simpa using this
  intro ρ n h
  exact key ds 0 ρ n (by simp) (by simp) h
@[simp] theorem iE_tup (a : WE) (ρ : Sl) (n : Nat) (R : List D → Sl → Nat → Prop) : iE (wCons a wNil) ρ n R = a ρ n fun d ρ1 n1 => (match ([d] : List D) with
  | [.lst ds] => R (enumD 0 ds) ρ1 n1
  | [.tup ds] => R (enumD 0 ds) ρ1 n1
  | _ => False) := rfl
@[simp] theorem iZ_ (w : WA) (ρ : Sl) (n : Nat) (R : List D → Sl → Nat → Prop) : iZ w ρ n R = w ρ n fun as ρ1 n1 => (match as with
  | [.lst xs, .lst ys] => R (pairsD xs ys) ρ1 n1
  | [.tup xs, .tup ys] => R (pairsD xs ys) ρ1 n1
  | _ => False) := rfl
@[simp] theorem iR1_ (w : WA) (ρ : Sl) (n : Nat) (R : List D → Sl → Nat → Prop) : iR1 w ρ n R = w ρ n fun as ρ1 n1 => (match as with
  | [.int j] => -(2 ^ 62) ≤ j ∧ j < 2 ^ 62 ∧ R (rangeD 0 j.toNat) ρ1 n1
  | _ => False) := rfl
@[simp] theorem iR2_ (w : WA) (ρ : Sl) (n : Nat) (R : List D → Sl → Nat → Prop) : iR2 w ρ n R = w ρ n fun as ρ1 n1 => (match as with
  | [.int i, .int j] => (-(2 ^ 62) ≤ i ∧ i < 2 ^ 62 ∧ -(2 ^ 62) ≤ j ∧ j < 2 ^ 62) ∧ R (rangeD i (j - i).toNat) ρ1 n1
  | _ => False) := rfl
section
variable (ρ : Sl) (n : Nat) (Q : WQ)
@[simp] theorem wDGet_ (wa wb : WE) : wDGet wa wb ρ n Q = wa ρ n fun d ρ1 n1 => wb ρ1 n1 fun y ρ2 n2 => (match d with
  | .dic ks ds => ∃ k v, keyD y = some k ∧ findD k ks ds = some v ∧ Q v ρ2 n2
  | _ => False) := rfl
@[simp] theorem wDGet2_ (wa wb wc : WE) : wDGet2 wa wb wc ρ n Q = wa ρ n fun d ρ1 n1 => (match d with
  | .dic ks ds => wb ρ1 n1 fun y ρ2 n2 => wc ρ2 n2 fun z ρ3 n3 => ∃ k, keyD y = some k ∧ Q ((findD k ks ds).getD z) ρ3 n3
  | _ => False) := rfl
@[simp] theorem wSubO_ (c : String) (wf : WF) (wa wb : WE) : wSubO c wf wa wb ρ n Q = wa ρ n fun d ρ1 n1 => wb ρ1 n1 fun k ρ2 n2 => (match d with
  | .obj c' _ _ => c' = c ∧ wf [d, k] n2 fun r n3 => Q r ρ2 n3
  | _ => False) := rfl
@[simp] theorem wMethK_ (c m : String) (wf : WF) (wa wb : WE) : wMethK c m wf wa wb ρ n Q = wa ρ n fun d ρ1 n1 => onO c m d (wb ρ1 n1 fun y ρ2 n2 => wf [d, y] n2 fun r n3 => Q r ρ2 n3) := rfl
@[simp] theorem wInO_ (c : String) (neg : Bool) (wf : WF) (wa wb : WE) : wInO c neg wf wa wb ρ n Q = wa ρ n fun d ρ1 n1 => wb ρ1 n1 fun o ρ2 n2 => (match o with
  | .obj c' _ _ => c' = c ∧ wf [o, d] n2 fun r n3 => onB r fun k => Q (.bl (if neg then !k else k)) ρ2 n3
  | _ => False) := rfl
@[simp] theorem wRepr_ (w : WA) : wRepr w ρ n Q = w ρ n fun as ρ1 n1 => (match as with
  | [d] => ∃ x, toP d = some x ∧ ShowOk x ∧ Q (.str x.shown) ρ1 n1
  | _ => False) := rfl
@[simp] theorem wSortT_ (w : WA) : wSortT w ρ n Q = w ρ n fun as ρ1 n1 => (match as with
  | [d] => ∃ (ds : List D) (ns : List Str), seqD d = some ds ∧ ds.map nameD = ns.map some ∧ ns.Nodup ∧ ∀ (es : List D) (ms : List Str), es.Perm ds → es.map nameD = ms.map some → ms.Pairwise (fun a b => ltSt b a = false) → Q (.lst es) ρ1 n1
  | _ => False) := rfl
@[simp] theorem wSortS_ (w : WA) : wSortS w ρ n Q = w ρ n fun as ρ1 n1 => (match as with
  | [.lst ds] => ∃ ns : List Str, ds.map strD = ns.map some ∧ ns.length < 64 ∧ ∀ ms : List Str, ms.Perm ns → ms.Pairwise (fun a b => ltSt b a = false) → Q (.lst (ms.map D.str)) ρ1 n1
  | _ => False) := rfl
@[simp] theorem wSplit_ (wa wb : WE) : wSplit wa wb ρ n Q = wa ρ n fun d ρ1 n1 => onS d fun a => wb ρ1 n1 fun y ρ2 n2 => onS y fun b => (b.length == 0) = false ∧ a.length ≤ 99998 ∧ Q (.lst ((Txt.split a b).map D.str)) ρ2 n2 := rfl
@[simp] theorem wJoin_ (wa wb : WE) : wJoin wa wb ρ n Q = wa ρ n fun d ρ1 n1 => onS d fun a => wb ρ1 n1 fun y ρ2 n2 => ∃ (ds : List D) (ys : List Str), seqD y = some ds ∧ ds.map strD = ys.map some ∧ (ys.map (·.length)).sum + ys.length * a.length ≤ 16777216 ∧ Q (.str (Txt.join a ys)) ρ2 n2 := rfl
@[simp] theorem wLenO_ (i : Nat) : wLenO i ρ n Q = (match ρ[i]? with
  | some (.own (.lst ds)) => Q (.int ds.length) ρ n
  | some (.val (.lst ds)) => Q (.int ds.length) ρ n
  | some (.val (.tup ds)) => Q (.int ds.length) ρ n
  | _ => False) := rfl
@[simp] theorem wPopAt_ (i : Nat) (we : WE) : wPopAt i we ρ n Q = (match ρ[i]? with
  | some (.own (.lst ds)) => we ρ n fun d ρ1 n1 => onI d fun k => (match ρ1[i]? with
    | some (.own (.lst es)) => es = ds ∧ 0 ≤ k ∧ k < (2 : Int) ^ 62 ∧ opt (ds[k.toNat]?) fun y => Q y (ρ1.set i (.own (.lst (ds.eraseIdx k.toNat)))) n1
    | _ => False)
  | _ => False) := rfl
@[simp] theorem wAugI_ (i : Nat) (we : WE) (q : EndsD) : wAugI i we q ρ n = (match ρ[i]? with
  | some (.val (.int a)) => we ρ n fun d ρ1 n1 => onI d fun b => i < ρ1.length ∧ q.nx (ρ1.set i (.val (.int (a + b)))) n1
  | _ => False) := rfl
@[simp] theorem wStar_ (we : WE) (w : WA) (R : List D → Sl → Nat → Prop) : wStar we w ρ n R = we ρ n fun d ρ1 n1 => (match d with
  | .tup ds => w ρ1 n1 fun as ρ2 n2 => R (ds ++ as) ρ2 n2
  | .lst ds => w ρ1 n1 fun as ρ2 n2 => R (ds ++ as) ρ2 n2
  | _ => False) := rfl
@[simp] theorem wCon_ (i : Nat) (c f : String) (d : D) : wCon i c f d ρ n Q = (match ρ[i]? with
  | some (.val (.obj c' ns _)) => c' = c ∧ f ∉ ns ∧ Q d ρ n
  | some (.own (.obj c' ns _)) => c' = c ∧ f ∉ ns ∧ Q d ρ n
  | _ => False) := rfl
@[simp] theorem onL_ (ds : List D) (R : List D → Prop) : onL (.lst ds) R = R ds := rfl
end
end DL
end
section
namespace K22
open PySem DL
def B_is_integer : WS :=
  (wRet (wAnd (wCB gIsi (wCons (wVar 0) (wCons (wC (.ty "int")) wNil))) (wNot (wCB gIsi (wCons (wVar 0) (wCons (wC (.ty "bool")) wNil))))))
@[irreducible] def w_is_integer : WF := fun ds n q => B_is_integer { nx := fun _ n => q .non n, rt := q } (slots0 ds 0) n
def B_is_name : WS :=
  (wRet (wAnd (wCB gIsi (wCons (wVar 0) (wCons (wC (.ty "str")) wNil))) (wAnd (wChain gLe gLe (wC (.int 1)) (wCB gLen (wCons (wVar 0) wNil)) (wC (.int 8))) (wCB gAll (wCons (wLc (iS (wVar 0)) (wName 1) vYes (wOp (gIn false) (wVar 1) (wC (.str (Str.ofString "abcdefghijklmnopqrstuvwxyzABCDEFGHIJKLMNOPQRSTUVWXYZ")))) [1]) wNil)))))
@[irreducible] def w_is_name : WF := fun ds n q => B_is_name { nx := fun _ n => q .non n, rt := q } (slots0 ds 1) n
def B_is_amount : WS :=
  (wRet (wAnd (wCallF (wLen 1 w_is_integer) [] (wCons (wVar 0) wNil)) (wChain gLe gLe (wC (.int 1)) (wVar 0) (wC (.int 1000000000000000000)))))
@[irreducible] def w_is_amount : WF := fun ds n q => B_is_amount { nx := fun _ n => q .non n, rt := q } (slots0 ds 0) n
def B_are_ascending : WS :=
  (wRet (wCB gAll (wCons (wLc (iZ (wCons (wVar 0) (wCons (wSl (wVar 0) (wPart (wC (.int 1))) wNo) wNil))) (wTupG 2 (wConsG (wName 1) (wConsG (wName 2) wNilG))) vYes (wOp gLtA (wVar 1) (wVar 2)) [1, 2]) wNil)))
@[irreducible] def w_are_ascending : WF := fun ds n q => B_are_ascending { nx := fun _ n => q .non n, rt := q } (slots0 ds 2) n
def B_are_arrays : WS :=
  (wSeq (wIfS (vOr (vNot (wTest (wCB gIsi (wCons (wVar 0) (wCons (wC (.ty "tuple")) wNil))))) (vNot (wTest (wChain gLe gLe (wC (.int 1)) (wCB gLen (wCons (wVar 0) wNil)) (wVar 1))))) (wRet (wC (.bl false))) wSkip)
    (wSeq (wFor (iT (wVar 0)) (wName 2)
    (wIfS (vOr (vNot (wTest (wCB gIsi (wCons (wVar 2) (wCons (wC (.ty "tuple")) wNil))))) (vOr (wTest (wOp gNe (wCB gLen (wCons (wVar 2) wNil)) (wC (.int 2)))) (vOr (vNot (wTest (wCallF (wLen 1 w_is_name) [] (wCons (wOp gIx (wVar 2) (wC (.int 0))) wNil)))) (vNot (wTest (wCallF (wLen 1 w_is_amount) [] (wCons (wOp gIx (wVar 2) (wC (.int 1))) wNil))))))) (wRet (wC (.bl false))) wSkip))
    (wRet (wCallF (wLen 1 w_are_ascending) [] (wCons (wLc (iT (wVar 0)) (wTupG 2 (wConsG (wName 3) (wConsG (wName 4) wNilG))) vYes (wVar 3) [3, 4]) wNil)))))
@[irreducible] def w_are_arrays : WF := fun ds n q => B_are_arrays { nx := fun _ n => q .non n, rt := q } (slots0 ds 3) n
def B_is_access : WS :=
  (wSeq (wIfS (vOr (vNot (wTest (wCB gIsi (wCons (wVar 0) (wCons (wC (.ty "tuple")) wNil))))) (wTest (wOp gNe (wCB gLen (wCons (wVar 0) wNil)) (wC (.int 3))))) (wRet (wC (.bl false))) wSkip)
    (wSeq (wAsg (wVar 0) (wTupG 3 (wConsG (wName 2) (wConsG (wName 3) (wConsG (wName 4) wNilG)))))
    (wSeq (wIfS (vOr (vNot (wTest (wCB gIsi (wCons (wVar 2) (wCons (wC (.ty "str")) wNil))))) (wTest (wOp (gIn true) (wVar 2) (wVar 1)))) (wRet (wC (.bl false))) wSkip)
    (wRet (wAnd (wCallF (wLen 1 w_is_integer) [] (wCons (wVar 3) wNil)) (wAnd (wChain gLe gLe (wUn gNeg (wC (.int 3))) (wVar 3) (wC (.int 3))) (wAnd (wCallF (wLen 1 w_is_integer) [] (wCons (wVar 4) wNil)) (wChain gLtA gLtA (wUn gNeg (wC (.int 10000000000000000000))) (wVar 4) (wC (.int 10000000000000000000))))))))))
@[irreducible] def w_is_access : WF := fun ds n q => B_is_access { nx := fun _ n => q .non n, rt := q } (slots0 ds 3) n
def B_is_statement : WS :=
  (wSeq (wIfS (vOr (vNot (wTest (wCB gIsi (wCons (wVar 0) (wCons (wC (.ty "tuple")) wNil))))) (vOr (wTest (wOp gNe (wCB gLen (wCons (wVar 0) wNil)) (wC (.int 4)))) (vNot (wTest (wCallF (wLen 2 w_is_access) [] (wCons (wSl (wVar 0) wNo (wPart (wC (.int 3)))) (wCons (wVar 1) wNil))))))) (wRet (wC (.bl false))) wSkip)
    (wSeq (wIfS (vAnd (wTest (wOp gEq (wOp gIx (wVar 0) (wC (.int 1))) (wC (.int 0)))) (wTest (wOp gNe (wVar 2) (wC (.int 1))))) (wRet (wC (.bl false))) wSkip)
    (wSeq (wAsg (wOp gIx (wVar 0) (wC (.int 3))) (wName 3))
    (wSeq (wIfS (vOr (vNot (wTest (wCB gIsi (wCons (wVar 3) (wCons (wC (.ty "tuple")) wNil))))) (wTest (wOp gGt (wCB gLen (wCons (wVar 3) wNil)) (wC (.int 3))))) (wRet (wC (.bl false))) wSkip)
    (wRet (wCB gAll (wCons (wLc (iT (wVar 3)) (wName 4) vYes (wCallF (wLen 2 w_is_access) [] (wCons (wVar 4) (wCons (wVar 1) wNil))) [4]) wNil)))))))
@[irreducible] def w_is_statement : WF := fun ds n q => B_is_statement { nx := fun _ n => q .non n, rt := q } (slots0 ds 2) n
def B_are_loops : WS :=
  (wSeq (wIfS (vOr (vNot (wTest (wCB gIsi (wCons (wVar 0) (wCons (wC (.ty "tuple")) wNil))))) (vNot (wTest (wChain gLe gLe (wC (.int 1)) (wCB gLen (wCons (wVar 0) wNil)) (wC (.int 4)))))) (wRet (wC (.bl false))) wSkip)
    (wSeq (wAsg (wC (.int 0)) (wName 2))
    (wSeq (wFor (iT (wVar 0)) (wName 3)
    (wSeq (wIfS (vOr (vNot (wTest (wCB gIsi (wCons (wVar 3) (wCons (wC (.ty "tuple")) wNil))))) (vOr (wTest (wOp gNe (wCB gLen (wCons (wVar 3) wNil)) (wC (.int 2)))) (vOr (vNot (wTest (wCallF (wLen 1 w_is_amount) [] (wCons (wOp gIx (wVar 3) (wC (.int 0))) wNil)))) (vNot (wTest (wCB gIsi (wCons (wOp gIx (wVar 3) (wC (.int 1))) (wCons (wC (.ty "tuple")) wNil)))))))) (wRet (wC (.bl false))) wSkip)
    (wSeq (wAugI 2 (wCB gLen (wCons (wOp gIx (wVar 3) (wC (.int 1))) wNil)))
    (wSeq (wIfS (vOr (wTest (wOp gEq (wCB gLen (wCons (wOp gIx (wVar 3) (wC (.int 1))) wNil)) (wC (.int 0)))) (wTest (wOp gGt (wVar 2) (wC (.int 8))))) (wRet (wC (.bl false))) wSkip)
    (wIfS (vNot (wTest (wCB gAll (wCons (wLc (iT (wOp gIx (wVar 3) (wC (.int 1)))) (wName 4) vYes (wCallF (wLen 3 w_is_statement) [] (wCons (wVar 4) (wCons (wVar 1) (wCons (wOp gIx (wVar 3) (wC (.int 0))) wNil)))) [4]) wNil)))) (wRet (wC (.bl false))) wSkip)))))
    (wRet (wC (.bl true))))))
@[irreducible] def w_are_loops : WF := fun ds n q => B_are_loops { nx := fun _ n => q .non n, rt := q } (slots0 ds 3) n
def B_are_outputs : WS :=
  (wSeq (wIfS (vNot (wTest (wCB gIsi (wCons (wVar 0) (wCons (wC (.ty "tuple")) wNil))))) (wRet (wC (.bl false))) wSkip)
    (wRet (wAnd (wCB gAll (wCons (wLc (iT (wVar 0)) (wName 2) vYes (wAnd (wCB gIsi (wCons (wVar 2) (wCons (wC (.ty "str")) wNil))) (wOp (gIn false) (wVar 2) (wVar 1))) [2]) wNil)) (wCallF (wLen 1 w_are_ascending) [] (wCons (wVar 0) wNil)))))
@[irreducible] def w_are_outputs : WF := fun ds n q => B_are_outputs { nx := fun _ n => q .non n, rt := q } (slots0 ds 1) n
def B_all_writers : WS :=
  (wSeq (wSetO 1 (wLst wNil))
    (wSeq (wFor (iE (wCons (wVar 0) wNil)) (wTupG 2 (wConsG (wName 2) (wConsG (wTupG 2 (wConsG (wName 3) (wConsG (wName 4) wNilG))) wNilG)))
    (wFor (iE (wCons (wVar 4) wNil)) (wTupG 2 (wConsG (wName 5) (wConsG (wTupG 4 (wConsG (wName 6) (wConsG (wName 7) (wConsG (wName 8) (wConsG (wName 9) wNilG))))) wNilG)))
    (wExpr (wApp 1 (wTup (wCons (wTup (wCons (wVar 2) (wCons (wVar 5) wNil))) (wCons (wVar 6) (wCons (wTup (wCons (wVar 7) (wCons (wVar 8) (wCons (wVar 3) wNil)))) wNil))))))))
    (wRet (wCB gTuple (wCons (wVar 1) wNil)))))
@[irreducible] def w_all_writers : WF := fun ds n q => B_all_writers { nx := fun _ n => q .non n, rt := q } (slots0 ds 9) n
def B_all_reads : WS :=
  (wSeq (wSetO 1 (wLst wNil))
    (wSeq (wFor (iE (wCons (wVar 0) wNil)) (wTupG 2 (wConsG (wName 2) (wConsG (wTupG 2 (wConsG (wName 3) (wConsG (wName 4) wNilG))) wNilG)))
    (wFor (iE (wCons (wVar 4) wNil)) (wTupG 2 (wConsG (wName 5) (wConsG (wTupG 4 (wConsG (wName 6) (wConsG (wName 7) (wConsG (wName 8) (wConsG (wName 9) wNilG))))) wNilG)))
    (wFor (iE (wCons (wVar 9) wNil)) (wTupG 2 (wConsG (wName 10) (wConsG (wTupG 3 (wConsG (wName 11) (wConsG (wName 12) (wConsG (wName 13) wNilG)))) wNilG)))
    (wExpr (wApp 1 (wTup (wCons (wTup (wCons (wVar 2) (wCons (wVar 5) (wCons (wVar 10) wNil)))) (wCons (wVar 11) (wCons (wTup (wCons (wVar 12) (wCons (wVar 13) (wCons (wVar 3) wNil)))) wNil)))))))))
    (wRet (wCB gTuple (wCons (wVar 1) wNil)))))
@[irreducible] def w_all_reads : WF := fun ds n q => B_all_reads { nx := fun _ n => q .non n, rt := q } (slots0 ds 13) n
def B_first_out : WS :=
  (wSeq (wAsg (wVar 0) (wTupG 3 (wConsG (wName 2) (wConsG (wName 3) (wConsG (wName 4) wNilG)))))
    (wSeq (wIfS (vOr (wTest (wOp gLtA (wVar 3) (wC (.int 0)))) (wTest (wOp gGe (wVar 3) (wVar 1)))) (wRet (wC (.int 0))) wSkip)
    (wSeq (wIfS (wTest (wOp gEq (wVar 2) (wC (.int 0)))) (wRet (wC .non)) wSkip)
    (wSeq (wIfS (wTest (wOp gGt (wVar 2) (wC (.int 0)))) (wAsg (wUn gNeg (wOp gDiv (wOp gSub (wVar 3) (wVar 1)) (wVar 2))) (wName 5)) (wAsg (wOp gAdd (wOp gDiv (wVar 3) (wUn gNeg (wVar 2))) (wC (.int 1))) (wName 5)))
    (wRet (wIf (wTest (wOp gLtA (wVar 5) (wVar 4))) (wVar 5) (wC .non)))))))
@[irreducible] def w_first_out : WF := fun ds n q => B_first_out { nx := fun _ n => q .non n, rt := q } (slots0 ds 4) n
def B_at_most : WS :=
  (wSeq (wIfS (wTest (wOp gGt (wVar 3) (wC (.int 0)))) (wRet (wTup (wCons (wVar 0) (wCons (wCB gMin2 (wCons (wVar 1) (wCons (wOp gDiv (wOp gSub (wVar 4) (wVar 2)) (wVar 3)) wNil))) wNil)))) wSkip)
    (wSeq (wIfS (wTest (wOp gLtA (wVar 3) (wC (.int 0)))) (wRet (wTup (wCons (wCB gMax2 (wCons (wVar 0) (wCons (wUn gNeg (wOp gDiv (wOp gSub (wVar 4) (wVar 2)) (wUn gNeg (wVar 3)))) wNil))) (wCons (wVar 1) wNil)))) wSkip)
    (wSeq (wIfS (wTest (wOp gLe (wVar 2) (wVar 4))) (wRet (wTup (wCons (wVar 0) (wCons (wVar 1) wNil)))) wSkip)
    (wRet (wTup (wCons (wVar 0) (wCons (wOp gSub (wVar 0) (wC (.int 1))) wNil)))))))
@[irreducible] def w_at_most : WF := fun ds n q => B_at_most { nx := fun _ n => q .non n, rt := q } (slots0 ds 0) n
def B_last_step : WS :=
  (wRet (wOp gDiv (wOp gSub (wOp gSub (wVar 0) (wC (.int 1))) (wVar 1)) (wC (.int 6))))
@[irreducible] def w_last_step : WF := fun ds n q => B_last_step { nx := fun _ n => q .non n, rt := q } (slots0 ds 0) n
def B_meeting : WS :=
  (wSeq (wAsg (wVar 0) (wTupG 3 (wConsG (wName 5) (wConsG (wName 6) (wConsG (wName 7) wNilG)))))
    (wSeq (wAsg (wVar 2) (wTupG 2 (wConsG (wTupG 3 (wConsG (wName 3) (wConsG (wName 13) (wConsG (wName 14) wNilG)))) (wConsG (wName 8) wNilG))))
    (wSeq (wAsg (wIf (wTest (wOp gEq (wVar 3) (wC (.int 0)))) (wC (.int 1)) (wVar 3)) (wName 3))
    (wSeq (wAsg (wOp gSub (wOp gAdd (wOp gMul (wVar 5) (wVar 1)) (wVar 6)) (wVar 13)) (wName 4))
    (wSeq (wIfS (wTest (wOp gNe (wOp gMd (wVar 4) (wVar 3)) (wC (.int 0)))) (wRet (wTup (wCons (wC (.int 0)) (wCons (wUn gNeg (wC (.int 1))) wNil)))) wSkip)
    (wSeq (wPar 9 10 (wCons (wOp gDiv (wVar 4) (wVar 3)) (wCons (wOp gDiv (wOp gMul (wC (.int 6)) (wVar 5)) (wVar 3)) wNil)))
    (wSeq (wAsg (wCallF (wLen 5 w_at_most) [] (wCons (wC (.int 0)) (wCons (wCallF (wLen 2 w_last_step) [] (wCons (wVar 7) (wCons (wVar 1) wNil))) (wCons (wVar 9) (wCons (wVar 10) (wCons (wOp gSub (wVar 14) (wC (.int 1))) wNil)))))) (wTupG 2 (wConsG (wName 11) (wConsG (wName 12) wNilG))))
    (wSeq (wAsg (wCallF (wLen 5 w_at_most) [] (wCons (wVar 11) (wCons (wVar 12) (wCons (wUn gNeg (wVar 9)) (wCons (wUn gNeg (wVar 10)) (wCons (wC (.int 0)) wNil)))))) (wTupG 2 (wConsG (wName 11) (wConsG (wName 12) wNilG))))
    (wSeq (wIfS (wTest (wOp (gIsN false) (wVar 8) (wC .non))) (wRet (wTup (wCons (wVar 11) (wCons (wVar 12) wNil)))) wSkip)
    (wRet (wCallF (wLen 5 w_at_most) [] (wCons (wVar 11) (wCons (wVar 12) (wCons (wOp gSub (wVar 9) (wVar 1)) (wCons (wOp gSub (wVar 10) (wC (.int 6))) (wCons (wUn gNeg (wVar 8)) wNil))))))))))))))))
@[irreducible] def w_meeting : WF := fun ds n q => B_meeting { nx := fun _ n => q .non n, rt := q } (slots0 ds 12) n
def B_first_met : WS :=
  (wSeq (wSetO 2 (wLst wNil))
    (wSeq (wFor (iR1 (wCons (wC (.int 6)) wNil)) (wName 3)
    (wSeq (wAsg (wCallF (wLen 3 w_meeting) [] (wCons (wVar 0) (wCons (wVar 3) (wCons (wVar 1) wNil)))) (wTupG 2 (wConsG (wName 4) (wConsG (wName 5) wNilG))))
    (wIfS (wTest (wOp gLe (wVar 4) (wVar 5))) (wExpr (wApp 2 (wOp gAdd (wVar 3) (wOp gMul (wC (.int 6)) (wVar 4))))) wSkip)))
    (wRet (wMinE (wVar 2)))))
@[irreducible] def w_first_met : WF := fun ds n q => B_first_met { nx := fun _ n => q .non n, rt := q } (slots0 ds 4) n
def B_Program_inputs : WS :=
  (wSeq (wAsg (wLc (iT (wUn (gFld "Program" "writers") (wVar 0))) (wTupG 3 (wConsG (wName 2) (wConsG (wName 3) (wConsG (wName 4) wNilG)))) vYes (wVar 3) [2, 3, 4]) (wName 1))
    (wRet (wCB gTuple (wCons (wLc (iT (wUn (gFld "Program" "arrays") (wVar 0))) (wTupG 2 (wConsG (wName 3) (wConsG (wName 5) wNilG))) (wTest (wOp (gIn true) (wVar 3) (wVar 1))) (wVar 3) [3, 5]) wNil))))
@[irreducible] def w_Program_inputs : WF := fun ds n q => B_Program_inputs { nx := fun _ n => q .non n, rt := q } (slots0 ds 5) n
def B_Program_size_of : WS :=
  (wRet (wOp gIx (wLc (iT (wUn (gFld "Program" "arrays") (wVar 0))) (wTupG 2 (wConsG (wName 2) (wConsG (wName 3) wNilG))) (wTest (wOp gEq (wVar 2) (wVar 1))) (wVar 3) [2, 3]) (wC (.int 0))))
@[irreducible] def w_Program_size_of : WF := fun ds n q => B_Program_size_of { nx := fun _ n => q .non n, rt := q } (slots0 ds 2) n
def B_Program___contains__ : WS :=
  (wRet (wAnd (wCB gIsi (wCons (wVar 1) (wCons (wC (.ty "str")) wNil))) (wOp (gIn false) (wVar 1) (wLc (iT (wUn (gFld "Program" "arrays") (wVar 0))) (wTupG 2 (wConsG (wName 2) (wConsG (wName 3) wNilG))) vYes (wVar 2) [2, 3]))))
@[irreducible] def w_Program___contains__ : WF := fun ds n q => B_Program___contains__ { nx := fun _ n => q .non n, rt := q } (slots0 ds 2) n
def B_check_bounds : WS :=
  (wSeq (wAsg (wCallF (wLen 1 w_all_reads) [] (wCons (wUn (gFld "Program" "loops") (wVar 0)) wNil)) (wName 1))
    (wFor (iT (wUn (gFld "Program" "writers") (wVar 0))) (wTupG 3 (wConsG (wName 2) (wConsG (wName 3) (wConsG (wName 4) wNilG))))
    (wSeq (wSetO 5 (wLc (iT (wVar 1)) (wName 10) (wTest (wOp gEq (wSl (wOp gIx (wVar 10) (wC (.int 0))) wNo (wPart (wC (.int 2)))) (wVar 2))) (wVar 10) [10]))
    (wFor (iL (wOp gAdd (wLst (wCons (wTup (wCons (wVar 2) (wCons (wVar 3) (wCons (wVar 4) wNil)))) wNil)) (wVar 5))) (wTupG 3 (wConsG (wName 6) (wConsG (wName 7) (wConsG (wName 8) wNilG))))
    (wSeq (wAsg (wCallF (wLen 2 w_first_out) [] (wCons (wVar 8) (wCons (wMeth "Program" "size_of" (wLen 2 w_Program_size_of) [] (wVar 0) (wCons (wVar 7) wNil)) wNil))) (wName 9))
    (wIfS (wTest (wOp (gIsN true) (wVar 9) (wC .non))) wStuck wSkip))))))
@[irreducible] def w_check_bounds : WF := fun ds n q => B_check_bounds { nx := fun _ n => q .non n, rt := q } (slots0 ds 10) n
def B_check_writes : WS :=
  (wSeq (wSetO 1 (wLst wNil))
    (wSeq (wFor (iT (wUn (gFld "Program" "writers") (wVar 0))) (wTupG 3 (wConsG (wName 2) (wConsG (wName 3) (wConsG (wName 4) wNilG))))
    (wFor (iT (wUn (gFld "Program" "writers") (wVar 0))) (wTupG 3 (wConsG (wName 5) (wConsG (wName 6) (wConsG (wName 7) wNilG))))
    (wSeq (wIfS (vOr (wTest (wOp gNe (wVar 6) (wVar 3))) (vOr (wTest (wOp gGt (wOp gIx (wVar 5) (wC (.int 0))) (wOp gIx (wVar 2) (wC (.int 0))))) (wTest (wOp gEq (wVar 5) (wVar 2))))) wCnt wSkip)
    (wSeq (wAsg (wC .non) (wName 8))
    (wSeq (wIfS (wTest (wOp gEq (wOp gIx (wVar 5) (wC (.int 0))) (wOp gIx (wVar 2) (wC (.int 0))))) (wAsg (wIf (wTest (wOp gLtA (wOp gIx (wVar 5) (wC (.int 1))) (wOp gIx (wVar 2) (wC (.int 1))))) (wC (.int 0)) (wC (.int 1))) (wName 8)) wSkip)
    (wSeq (wAsg (wCallF (wLen 2 w_first_met) [] (wCons (wVar 4) (wCons (wTup (wCons (wVar 7) (wCons (wVar 8) wNil))) wNil))) (wName 9))
    (wIfS (wTest (wOp (gIsN true) (wVar 9) (wC .non))) (wExpr (wApp 1 (wTup (wCons (wOp gIx (wVar 2) (wC (.int 0))) (wCons (wVar 9) (wCons (wOp gIx (wVar 2) (wC (.int 1))) wNil)))))) wSkip)))))))
    (wIfS (wTest (wOp gGt (wLenO 1) (wC (.int 0)))) wStuck wSkip)))
@[irreducible] def w_check_writes : WF := fun ds n q => B_check_writes { nx := fun _ n => q .non n, rt := q } (slots0 ds 11) n
def B_check_uses : WS :=
  (wSeq (wSetO 1 (wLst wNil))
    (wSeq (wFor (iT (wCallF (wLen 1 w_all_reads) [] (wCons (wUn (gFld "Program" "loops") (wVar 0)) wNil))) (wTupG 3 (wConsG (wName 3) (wConsG (wName 2) (wConsG (wName 4) wNilG))))
    (wIfS (wTest (wOp (gIn true) (wVar 2) (wProp "Program" w_Program_inputs (wVar 0)))) (wSeq wStuck
    wStuck) wSkip))
    (wSeq (wIfS (wTest (wOp gGt (wLenO 1) (wC (.int 0)))) wStuck wSkip)
    (wFor (iT (wUn (gFld "Program" "outputs") (wVar 0))) (wName 2)
    (wIfS (wTest (wOp (gIn true) (wVar 2) (wProp "Program" w_Program_inputs (wVar 0)))) (wSeq wStuck
    (wSeq wStuck
    wStuck)) wSkip)))))
@[irreducible] def w_check_uses : WF := fun ds n q => B_check_uses { nx := fun _ n => q .non n, rt := q } (slots0 ds 11) n
def B_Program___init__ : WS :=
  (wSeq (wFldS 0 "Program" "arrays" (wVar 1))
    (wSeq (wFldS 0 "Program" "loops" (wVar 2))
    (wSeq (wFldS 0 "Program" "outputs" (wVar 3))
    (wSeq (wIfS (vNot (wTest (wCallF (wLen 2 w_are_arrays) [] (wCons (wVar 1) (wCons (wCon 0 "Program" "MOST" (.int 6)) wNil))))) wStuck wSkip)
    (wSeq (wSetO 4 (wLc (iT (wVar 1)) (wTupG 2 (wConsG (wName 5) (wConsG (wName 6) wNilG))) vYes (wVar 5) [5, 6]))
    (wSeq (wIfS (vNot (wTest (wCallF (wLen 2 w_are_loops) [] (wCons (wVar 2) (wCons (wVar 4) wNil))))) wStuck wSkip)
    (wSeq (wIfS (vNot (wTest (wCallF (wLen 2 w_are_outputs) [] (wCons (wVar 3) (wCons (wVar 4) wNil))))) wStuck wSkip)
    (wSeq (wFldS 0 "Program" "writers" (wCallF (wLen 1 w_all_writers) [] (wCons (wVar 2) wNil)))
    (wSeq (wExpr (wCallF (wLen 1 w_check_bounds) [] (wCons (wVar 0) wNil)))
    (wSeq (wExpr (wCallF (wLen 1 w_check_writes) [] (wCons (wVar 0) wNil)))
    (wExpr (wCallF (wLen 1 w_check_uses) [] (wCons (wVar 0) wNil)))))))))))))
@[irreducible] def wI_Program___init__ : WI0 := fun ds n q => B_Program___init__ { nx := fun ρ n => ∃ d, (ρ[0]? = some (.val d) ∨ ρ[0]? = some (.own d)) ∧ q d n, rt := fun _ _ => False } (.own (.obj "Program" [] []) :: slots0 ds 3) n
def B_Program___eq__ : WS :=
  (wSeq (wIfS (vNot (wTest (wCB (gIsiO isiOs) (wCons (wVar 1) (wCons (wC (.cls "Program")) wNil))))) (wRet (wC (.bl false))) wSkip)
    (wRet (wAnd (wOp gEq (wUn (gFld "Program" "arrays") (wVar 0)) (wUn (gFld "Program" "arrays") (wVar 1))) (wAnd (wOp gEq (wUn (gFld "Program" "loops") (wVar 0)) (wUn (gFld "Program" "loops") (wVar 1))) (wOp gEq (wUn (gFld "Program" "outputs") (wVar 0)) (wUn (gFld "Program" "outputs") (wVar 1)))))))
@[irreducible] def w_Program___eq__ : WF := fun ds n q => B_Program___eq__ { nx := fun _ n => q .non n, rt := q } (slots0 ds 0) n
def B_is_layout : WS :=
  (wSeq (wIfS (wTest (wCB gIsi (wCons (wVar 0) (wCons (wC (.ty "str")) wNil)))) (wRet (wOp (gIn false) (wVar 0) (wTup (wCons (wC (.str (Str.ofString "up"))) (wCons (wC (.str (Str.ofString "down"))) wNil))))) wSkip)
    (wSeq (wIfS (vOr (vNot (wTest (wCB gIsi (wCons (wVar 0) (wCons (wC (.ty "tuple")) wNil))))) (vOr (wTest (wOp gNe (wCB gLen (wCons (wVar 0) wNil)) (wC (.int 2)))) (vNot (wTest (wCB gIsi (wCons (wOp gIx (wVar 0) (wC (.int 0))) (wCons (wC (.ty "str")) wNil))))))) (wRet (wC (.bl false))) wSkip)
    (wRet (wAnd (wOp gEq (wOp gIx (wVar 0) (wC (.int 0))) (wC (.str (Str.ofString "ring")))) (wAnd (wCallF (wLen 1 w_is_integer) [] (wCons (wOp gIx (wVar 0) (wC (.int 1))) wNil)) (wChain gLe gLe (wC (.int 1)) (wOp gIx (wVar 0) (wC (.int 1))) (wC (.int 8))))))))
@[irreducible] def w_is_layout : WF := fun ds n q => B_is_layout { nx := fun _ n => q .non n, rt := q } (slots0 ds 0) n
def B_low_high : WS :=
  (wSeq (wIfS (wTest (wOp gEq (wVar 0) (wC (.str (Str.ofString "up"))))) (wRet (wTup (wCons (wC (.int 0)) (wCons (wOp gSub (wVar 1) (wC (.int 1))) wNil)))) wSkip)
    (wSeq (wIfS (wTest (wOp gEq (wVar 0) (wC (.str (Str.ofString "down"))))) (wRet (wTup (wCons (wOp gSub (wC (.int 1)) (wVar 1)) (wCons (wC (.int 0)) wNil)))) wSkip)
    (wRet (wTup (wCons (wC (.int 0)) (wCons (wOp gSub (wCB gMin2 (wCons (wOp gIx (wVar 0) (wC (.int 1))) (wCons (wVar 1) wNil))) (wC (.int 1))) wNil))))))
@[irreducible] def w_low_high : WF := fun ds n q => B_low_high { nx := fun _ n => q .non n, rt := q } (slots0 ds 0) n
def B_are_places : WS :=
  (wSeq (wFor (iT (wVar 1)) (wName 2)
    (wSeq (wIfS (vOr (vNot (wTest (wCB gIsi (wCons (wVar 2) (wCons (wC (.ty "tuple")) wNil))))) (vOr (wTest (wOp gNe (wCB gLen (wCons (wVar 2) wNil)) (wC (.int 3)))) (wTest (wInO "Program" true w_Program___contains__ (wOp gIx (wVar 2) (wC (.int 0))) (wVar 0))))) (wRet (wC (.bl false))) wSkip)
    (wSeq (wAsg (wVar 2) (wTupG 3 (wConsG (wName 3) (wConsG (wName 4) (wConsG (wName 5) wNilG)))))
    (wSeq (wIfS (vOr (vNot (wTest (wCallF (wLen 1 w_is_integer) [] (wCons (wVar 4) wNil)))) (vNot (wTest (wCallF (wLen 1 w_is_layout) [] (wCons (wVar 5) wNil))))) (wRet (wC (.bl false))) wSkip)
    (wIfS (wTest (wOp gLtA (wOp gAdd (wVar 4) (wOp gIx (wCallF (wLen 2 w_low_high) [] (wCons (wVar 5) (wCons (wMeth "Program" "size_of" (wLen 2 w_Program_size_of) [] (wVar 0) (wCons (wVar 3) wNil)) wNil))) (wC (.int 0)))) (wC (.int 0)))) (wRet (wC (.bl false))) wSkip)))))
    (wRet (wOp gEq (wSortS (wCons (wLc (iT (wVar 1)) (wName 2) vYes (wOp gIx (wVar 2) (wC (.int 0))) [2]) wNil)) (wLc (iT (wUn (gFld "Program" "arrays") (wVar 0))) (wTupG 2 (wConsG (wName 3) (wConsG (wName 6) wNilG))) vYes (wVar 3) [3, 6]))))
@[irreducible] def w_are_places : WF := fun ds n q => B_are_places { nx := fun _ n => q .non n, rt := q } (slots0 ds 5) n
def B_Placement___init__ : WS :=
  (wSeq (wIfS (vNot (wTest (wCallF (wLen 2 w_are_places) [] (wCons (wVar 1) (wCons (wVar 2) wNil))))) (wRaise "NoPlacement") wSkip)
    (wSeq (wFldS 0 "Placement" "program" (wVar 1))
    (wSeq (wFldS 0 "Placement" "places" (wCB gTuple (wCons (wSortT (wCons (wVar 2) wNil)) wNil)))
    (wFldS 0 "Placement" "spots" (wDc (iT (wVar 2)) (wTupG 3 (wConsG (wName 3) (wConsG (wName 4) (wConsG (wName 5) wNilG)))) vYes (wVar 3) (wTup (wCons (wVar 4) (wCons (wVar 5) wNil))) [3, 4, 5])))))
@[irreducible] def wI_Placement___init__ : WFX := fun ds n q r => B_Placement___init__ { nx := fun ρ n => ∃ d, (ρ[0]? = some (.val d) ∨ ρ[0]? = some (.own d)) ∧ q d n, rt := fun _ _ => False, xc := fun c ds _ n => r c ds n } (.own (.obj "Placement" [] []) :: slots0 ds 3) n
def B_Placement_apart : WS :=
  (wSeq (wParFV 2 3 (wLst wNil) (wC (.int 0)))
    (wSeq (wFor (iT (wUn (gFld "Program" "arrays") (wVar 1))) (wTupG 2 (wConsG (wName 4) (wConsG (wName 5) wNilG)))
    (wSeq (wExpr (wApp 2 (wTup (wCons (wVar 4) (wCons (wVar 3) (wCons (wC (.str (Str.ofString "up"))) wNil))))))
    (wAugI 3 (wVar 5))))
    (wRet ((wMkV 0 "Placement" (wStX 1 wI_Placement___init__) (wCons (wVar 1) (wStar (wVar 2) wNil))) rxs0))))
@[irreducible] def w_Placement_apart : WF := fun ds n q => B_Placement_apart { nx := fun _ n => q .non n, rt := q } (slots0 ds 4) n
def B_Placement_size : WS :=
  (wSeq (wSetO 1 (wLc (iT (wUn (gFld "Placement" "places") (wVar 0))) (wTupG 3 (wConsG (wName 2) (wConsG (wName 3) (wConsG (wName 4) wNilG)))) vYes (wOp gAdd (wVar 3) (wOp gIx (wCallF (wLen 2 w_low_high) [] (wCons (wVar 4) (wCons (wMeth "Program" "size_of" (wLen 2 w_Program_size_of) [] (wUn (gFld "Placement" "program") (wVar 0)) (wCons (wVar 2) wNil)) wNil))) (wC (.int 1)))) [2, 3, 4]))
    (wRet (wOp gAdd (wMaxL (wCons (wVar 1) wNil)) (wC (.int 1)))))
@[irreducible] def w_Placement_size : WF := fun ds n q => B_Placement_size { nx := fun _ n => q .non n, rt := q } (slots0 ds 4) n
def B_Placement___eq__ : WS :=
  (wRet (wAnd (wCB (gIsiO isiOs) (wCons (wVar 1) (wCons (wC (.cls "Placement")) wNil))) (wAnd (wEqO "Program" ["Program", "Placement"] false w_Program___eq__ (wUn (gFld "Placement" "program") (wVar 0)) (wUn (gFld "Placement" "program") (wVar 1))) (wOp gEq (wUn (gFld "Placement" "places") (wVar 0)) (wUn (gFld "Placement" "places") (wVar 1))))))
@[irreducible] def w_Placement___eq__ : WF := fun ds n q => B_Placement___eq__ { nx := fun _ n => q .non n, rt := q } (slots0 ds 0) n
def B_Placement_moved : WS :=
  (wSeq (wAsg (wDc (iT (wVar 1)) (wTupG 2 (wConsG (wName 4) (wConsG (wName 5) wNilG))) vYes (wVar 4) (wVar 5) [4, 5]) (wName 2))
    (wSeq (wSetO 3 (wLc (iT (wUn (gFld "Placement" "places") (wVar 0))) (wTupG 3 (wConsG (wName 4) (wConsG (wName 5) (wConsG (wName 6) wNilG)))) vYes (wTup (wCons (wVar 4) (wCons (wDGet2 (wVar 2) (wVar 4) (wVar 5)) (wCons (wVar 6) wNil)))) [4, 5, 6]))
    (wRetX (wCallX (wStX 1 wI_Placement___init__) (wCons (wUn (gFld "Placement" "program") (wVar 0)) (wStar (wVar 3) wNil))))))
@[irreducible] def w_Placement_moved : WFX := fun ds n q r => B_Placement_moved { nx := fun _ n => q .non n, rt := q, xc := fun c ds _ n => r c ds n } (slots0 ds 5) n
def B__law_pick : WS :=
  (wRet (wOp gIx (wVar 1) (wCallF (wLen 2 w__law_draw) [] (wCons (wVar 0) (wCons (wCB gLen (wCons (wVar 1) wNil)) wNil)))))
@[irreducible] def w__law_pick : WF := fun ds n q => B__law_pick { nx := fun _ n => q .non n, rt := q } (slots0 ds 0) n
def B__law_names : WS :=
  (wSeq (wAsg (wSplit (wC (.str (Str.ofString "A a AB aB up down ring zz zzzzzzzz loop i B arrays"))) (wC (.str (Str.ofString " ")))) (wName 1))
    (wSeq (wIfS (wTest (wOp gEq (wCallF (wLen 2 w__law_draw) [] (wCons (wVar 0) (wCons (wC (.int 2)) wNil))) (wC (.int 0)))) (wSeq (wAsg (wTup (wCons (wCallF (wLen 2 w__law_draw) [] (wCons (wVar 0) (wCons (wC (.int 13)) wNil))) (wCons (wOp gAdd (wC (.int 1)) (wCallF (wLen 2 w__law_draw) [] (wCons (wVar 0) (wCons (wC (.int 12)) wNil)))) wNil))) (wTupG 2 (wConsG (wName 5) (wConsG (wName 6) wNilG))))
    (wRet (wLc (iR1 (wCons (wC (.int 6)) wNil)) (wName 7) vYes (wOp gIx (wVar 1) (wOp gMd (wCB gInt1 (wCons (wOp gAdd (wVar 5) (wOp gMul (wVar 6) (wVar 7))) wNil)) (wC (.int 13)))) [7]))) wSkip)
    (wSeq (wAsg (wC (.str (Str.ofString "abcdefghijklmnopqrstuvwxyzABCDEFGHIJKLMNOPQRSTUVWXYZ"))) (wName 2))
    (wSeq (wAsg (wTup (wCons (wCallF (wLen 2 w__law_draw) [] (wCons (wVar 0) (wCons (wC (.int 52)) wNil))) (wCons (wCallF (wLen 2 w__law_pick) [] (wCons (wVar 0) (wCons (wLst (wCons (wC (.int 1)) (wCons (wC (.int 3)) (wCons (wC (.int 5)) (wCons (wC (.int 7)) (wCons (wC (.int 9)) (wCons (wC (.int 11)) (wCons (wC (.int 17)) (wCons (wC (.int 25)) wNil))))))))) wNil))) wNil))) (wTupG 2 (wConsG (wName 5) (wConsG (wName 6) wNilG))))
    (wSeq (wAsg (wJoin (wC (.str (Str.ofString ""))) (wLc (iR1 (wCons (wCallF (wLen 2 w__law_draw) [] (wCons (wVar 0) (wCons (wC (.int 4)) wNil))) wNil)) (wName 7) vYes (wCallF (wLen 2 w__law_pick) [] (wCons (wVar 0) (wCons (wVar 2) wNil))) [7])) (wName 3))
    (wSeq (wAsg (wLc (iR1 (wCons (wC (.int 6)) wNil)) (wName 7) vYes (wJoin (wC (.str (Str.ofString ""))) (wLc (iR1 (wCons (wCallF (wLen 2 w__law_draw) [] (wCons (wVar 0) (wCons (wC (.int 5)) wNil))) wNil)) (wName 8) vYes (wCallF (wLen 2 w__law_pick) [] (wCons (wVar 0) (wCons (wVar 2) wNil))) [8])) [7]) (wName 4))
    (wRet (wLc (iR1 (wCons (wC (.int 6)) wNil)) (wName 7) vYes (wOp gAdd (wOp gAdd (wVar 3) (wOp gIx (wVar 2) (wOp gMd (wCB gInt1 (wCons (wOp gAdd (wVar 5) (wOp gMul (wVar 6) (wVar 7))) wNil)) (wC (.int 52))))) (wOp gIx (wVar 4) (wVar 7))) [7]))))))))
@[irreducible] def w__law_names : WF := fun ds n q => B__law_names { nx := fun _ n => q .non n, rt := q } (slots0 ds 8) n
def B__law_size : WS :=
  (wRet (wCallF (wLen 2 w__law_pick) [] (wCons (wVar 0) (wCons (wLst (wCons (wC (.int 1)) (wCons (wC (.int 2)) (wCons (wC (.int 3)) (wCons (wC (.int 7)) (wCons (wC (.int 8)) (wCons (wC (.int 9)) (wCons (wOp gAdd (wC (.int 1)) (wCallF (wLen 2 w__law_draw) [] (wCons (wVar 0) (wCons (wC (.int 1000)) wNil)))) (wCons (wOp gPow (wC (.int 10)) (wC (.int 18))) (wCons (wOp gSub (wOp gPow (wC (.int 10)) (wC (.int 18))) (wCallF (wLen 2 w__law_draw) [] (wCons (wVar 0) (wCons (wC (.int 99)) wNil)))) wNil)))))))))) wNil))))
@[irreducible] def w__law_size : WF := fun ds n q => B__law_size { nx := fun _ n => q .non n, rt := q } (slots0 ds 0) n
def B__law_program : WS :=
  (wSeq (wAsg (wSortS (wCons (wSl (wCallF (wLen 1 w__law_names) [] (wCons (wVar 0) wNil)) wNo (wPart (wOp gAdd (wC (.int 1)) (wCallF (wLen 2 w__law_draw) [] (wCons (wVar 0) (wCons (wC (.int 6)) wNil)))))) wNil)) (wName 1))
    (wSeq (wAsg (wCB gTuple (wCons (wLc (iL (wVar 1)) (wName 3) vYes (wTup (wCons (wVar 3) (wCons (wCallF (wLen 1 w__law_size) [] (wCons (wVar 0) wNil)) wNil))) [3]) wNil)) (wName 2))
    (wSeq (wAsg (wCallF (wLen 2 w__law_pick) [] (wCons (wVar 0) (wCons (wVar 2) wNil))) (wTupG 2 (wConsG (wName 3) (wConsG (wName 4) wNilG))))
    (wRet (wMake (wLen 3 wI_Program___init__) [.tup []] (wCons (wVar 2) (wCons (wTup (wCons (wTup (wCons (wC (.int 1)) (wCons (wTup (wCons (wTup (wCons (wVar 3) (wCons (wC (.int 0)) (wCons (wCallF (wLen 2 w__law_pick) [] (wCons (wVar 0) (wCons (wLst (wCons (wC (.int 0)) (wCons (wOp gSub (wVar 4) (wC (.int 1))) wNil))) wNil))) (wCons (wTup wNil) wNil))))) wNil)) wNil))) wNil)) wNil)))))))
@[irreducible] def w__law_program : WF := fun ds n q => B__law_program { nx := fun _ n => q .non n, rt := q } (slots0 ds 4) n
def B__law_great : WS :=
  (wSeq (wAsg (wLst (wCons (wC (.int 0)) (wCons (wC (.int 1)) (wCons (wC (.int 2)) (wCons (wCallF (wLen 2 w__law_draw) [] (wCons (wVar 0) (wCons (wC (.int 30)) wNil))) (wCons (wCallF (wLen 2 w__law_draw) [] (wCons (wVar 0) (wCons (wC (.int 1000)) wNil))) (wCons (wOp gAdd (wOp gPow (wC (.int 10)) (wC (.int 18))) (wCallF (wLen 2 w__law_draw) [] (wCons (wVar 0) (wCons (wC (.int 99)) wNil)))) wNil))))))) (wName 1))
    (wRet (wCallF (wLen 2 w__law_pick) [] (wCons (wVar 0) (wCons (wOp gAdd (wVar 1) (wLst (wCons (wOp gSub (wOp gPow (wC (.int 10)) (wC (.int 30))) (wOp gPow (wC (.int 10)) (wC (.int 19)))) (wCons (wOp gAdd (wOp gPow (wC (.int 10)) (wC (.int 29))) (wOp gMul (wCallF (wLen 2 w__law_draw) [] (wCons (wVar 0) (wCons (wC (.int 1000)) wNil))) (wOp gPow (wC (.int 10)) (wC (.int 12))))) wNil)))) wNil)))))
@[irreducible] def w__law_great : WF := fun ds n q => B__law_great { nx := fun _ n => q .non n, rt := q } (slots0 ds 1) n
def B__law_places : WS :=
  (wSeq (wSetO 2 (wLst wNil))
    (wSeq (wFor (iT (wVar 1)) (wTupG 2 (wConsG (wName 3) (wConsG (wName 4) wNilG)))
    (wSeq (wAsg (wCallF (wLen 2 w__law_pick) [] (wCons (wVar 0) (wCons (wLst (wCons (wC (.str (Str.ofString "up"))) (wCons (wC (.str (Str.ofString "down"))) (wCons (wTup (wCons (wC (.str (Str.ofString "ring"))) (wCons (wOp gAdd (wC (.int 1)) (wCallF (wLen 2 w__law_draw) [] (wCons (wVar 0) (wCons (wC (.int 8)) wNil)))) wNil))) (wCons (wTup (wCons (wC (.str (Str.ofString "ring"))) (wCons (wOp gAdd (wC (.int 1)) (wCallF (wLen 2 w__law_draw) [] (wCons (wVar 0) (wCons (wC (.int 8)) wNil)))) wNil))) wNil))))) wNil))) (wName 5))
    (wExpr (wApp 2 (wTup (wCons (wVar 3) (wCons (wOp gAdd (wIf (wTest (wOp gEq (wVar 5) (wC (.str (Str.ofString "down"))))) (wOp gSub (wVar 4) (wC (.int 1))) (wC (.int 0))) (wCallF (wLen 1 w__law_great) [] (wCons (wVar 0) wNil))) (wCons (wVar 5) wNil))))))))
    (wRet (wVar 2))))
@[irreducible] def w__law_places : WF := fun ds n q => B__law_places { nx := fun _ n => q .non n, rt := q } (slots0 ds 4) n
def B__law_turned : WS :=
  (wSeq (wParFF 1 3 (wSlL (wVar 1) wNo wNo) (wLst wNil))
    (wSeq (wFor (iR1 (wCons (wLenO 1) wNil)) (wName 2)
    (wExpr (wApp 3 (wPopAt 1 (wCallF (wLen 2 w__law_draw) [] (wCons (wVar 0) (wCons (wLenO 1) wNil)))))))
    (wRet (wVar 3))))
@[irreducible] def w__law_turned : WF := fun ds n q => B__law_turned { nx := fun _ n => q .non n, rt := q } (slots0 ds 2) n
def B__law_placement : WS :=
  (wSeq (wAsg (wCB gLen (wCons (wVar 1) wNil)) (wName 2))
    (wSeq (wIfS (wTest (wOp gLtA (wVar 2) (wC (.int 2)))) (wRet (wIf (wTest (wOp gEq (wVar 2) (wC (.int 0)))) (wMake (wSt 1 (noX wI_Placement___init__)) [] (wCons (wVar 0) wNil)) (wMake (wSt 1 (noX wI_Placement___init__)) [] (wCons (wVar 0) (wCons (wOp gIx (wVar 1) (wC (.int 0))) wNil))))) wSkip)
    (wSeq (wIfS (wTest (wOp gLtA (wVar 2) (wC (.int 4)))) (wRet (wIf (wTest (wOp gEq (wVar 2) (wC (.int 2)))) (wMake (wSt 1 (noX wI_Placement___init__)) [] (wCons (wVar 0) (wCons (wOp gIx (wVar 1) (wC (.int 0))) (wCons (wOp gIx (wVar 1) (wC (.int 1))) wNil)))) (wMake (wSt 1 (noX wI_Placement___init__)) [] (wCons (wVar 0) (wCons (wOp gIx (wVar 1) (wC (.int 0))) (wCons (wOp gIx (wVar 1) (wC (.int 1))) (wCons (wOp gIx (wVar 1) (wC (.int 2))) wNil))))))) wSkip)
    (wSeq (wIfS (wTest (wOp gEq (wVar 2) (wC (.int 4)))) (wRet (wMake (wSt 1 (noX wI_Placement___init__)) [] (wCons (wVar 0) (wCons (wOp gIx (wVar 1) (wC (.int 0))) (wCons (wOp gIx (wVar 1) (wC (.int 1))) (wCons (wOp gIx (wVar 1) (wC (.int 2))) (wCons (wOp gIx (wVar 1) (wC (.int 3))) wNil))))))) wSkip)
    (wSeq (wIfS (wTest (wOp gEq (wVar 2) (wC (.int 5)))) (wRet (wMake (wSt 1 (noX wI_Placement___init__)) [] (wCons (wVar 0) (wCons (wOp gIx (wVar 1) (wC (.int 0))) (wCons (wOp gIx (wVar 1) (wC (.int 1))) (wCons (wOp gIx (wVar 1) (wC (.int 2))) (wCons (wOp gIx (wVar 1) (wC (.int 3))) (wCons (wOp gIx (wVar 1) (wC (.int 4))) wNil)))))))) wSkip)
    (wSeq (wIfS (wTest (wOp gEq (wVar 2) (wC (.int 6)))) (wRet (wMake (wSt 1 (noX wI_Placement___init__)) [] (wCons (wVar 0) (wCons (wOp gIx (wVar 1) (wC (.int 0))) (wCons (wOp gIx (wVar 1) (wC (.int 1))) (wCons (wOp gIx (wVar 1) (wC (.int 2))) (wCons (wOp gIx (wVar 1) (wC (.int 3))) (wCons (wOp gIx (wVar 1) (wC (.int 4))) (wCons (wOp gIx (wVar 1) (wC (.int 5))) wNil))))))))) wSkip)
    (wRet (wMake (wSt 1 (noX wI_Placement___init__)) [] (wCons (wVar 0) (wCons (wOp gIx (wVar 1) (wC (.int 0))) (wCons (wOp gIx (wVar 1) (wC (.int 1))) (wCons (wOp gIx (wVar 1) (wC (.int 2))) (wCons (wOp gIx (wVar 1) (wC (.int 3))) (wCons (wOp gIx (wVar 1) (wC (.int 4))) (wCons (wOp gIx (wVar 1) (wC (.int 5))) (wCons (wOp gIx (wVar 1) (wC (.int 6))) wNil))))))))))))))))
@[irreducible] def w__law_placement : WF := fun ds n q => B__law_placement { nx := fun _ n => q .non n, rt := q } (slots0 ds 1) n
def B__law_moved : WS :=
  (wSeq (wAsg (wCB gLen (wCons (wVar 1) wNil)) (wName 2))
    (wSeq (wIfS (wTest (wOp gLtA (wVar 2) (wC (.int 2)))) (wRetX (wIfX (wTest (wOp gEq (wVar 2) (wC (.int 0)))) (wMethX "Placement" "moved" (wStX 1 w_Placement_moved) (wVar 0) wNil) (wMethX "Placement" "moved" (wStX 1 w_Placement_moved) (wVar 0) (wCons (wOp gIx (wVar 1) (wC (.int 0))) wNil)))) wSkip)
    (wSeq (wIfS (wTest (wOp gEq (wVar 2) (wC (.int 2)))) (wRetX (wMethX "Placement" "moved" (wStX 1 w_Placement_moved) (wVar 0) (wCons (wOp gIx (wVar 1) (wC (.int 0))) (wCons (wOp gIx (wVar 1) (wC (.int 1))) wNil)))) wSkip)
    (wSeq (wIfS (wTest (wOp gEq (wVar 2) (wC (.int 3)))) (wRetX (wMethX "Placement" "moved" (wStX 1 w_Placement_moved) (wVar 0) (wCons (wOp gIx (wVar 1) (wC (.int 0))) (wCons (wOp gIx (wVar 1) (wC (.int 1))) (wCons (wOp gIx (wVar 1) (wC (.int 2))) wNil))))) wSkip)
    (wSeq (wIfS (wTest (wOp gEq (wVar 2) (wC (.int 4)))) (wRetX (wMethX "Placement" "moved" (wStX 1 w_Placement_moved) (wVar 0) (wCons (wOp gIx (wVar 1) (wC (.int 0))) (wCons (wOp gIx (wVar 1) (wC (.int 1))) (wCons (wOp gIx (wVar 1) (wC (.int 2))) (wCons (wOp gIx (wVar 1) (wC (.int 3))) wNil)))))) wSkip)
    (wSeq (wIfS (wTest (wOp gEq (wVar 2) (wC (.int 5)))) (wRetX (wMethX "Placement" "moved" (wStX 1 w_Placement_moved) (wVar 0) (wCons (wOp gIx (wVar 1) (wC (.int 0))) (wCons (wOp gIx (wVar 1) (wC (.int 1))) (wCons (wOp gIx (wVar 1) (wC (.int 2))) (wCons (wOp gIx (wVar 1) (wC (.int 3))) (wCons (wOp gIx (wVar 1) (wC (.int 4))) wNil))))))) wSkip)
    (wRetX (wMethX "Placement" "moved" (wStX 1 w_Placement_moved) (wVar 0) (wCons (wOp gIx (wVar 1) (wC (.int 0))) (wCons (wOp gIx (wVar 1) (wC (.int 1))) (wCons (wOp gIx (wVar 1) (wC (.int 2))) (wCons (wOp gIx (wVar 1) (wC (.int 3))) (wCons (wOp gIx (wVar 1) (wC (.int 4))) (wCons (wOp gIx (wVar 1) (wC (.int 5))) wNil))))))))))))))
@[irreducible] def w__law_moved : WFX := fun ds n q r => B__law_moved { nx := fun _ n => q .non n, rt := q, xc := fun c ds _ n => r c ds n } (slots0 ds 1) n
def B__law_pairs : WS :=
  (wSeq (wSetO 3 (wLst wNil))
    (wSeq (wFor (iZm (wCons (wVar 1) (wCons (wVar 2) wNil))) (wTupG 2 (wConsG (wTupG 2 (wConsG (wName 5) (wConsG (wName 6) wNilG))) (wConsG (wName 4) wNilG)))
    (wIfS (wTest (wOp gGt (wCallF (wLen 2 w__law_draw) [] (wCons (wVar 0) (wCons (wC (.int 3)) wNil))) (wC (.int 0)))) (wSeq (wAsg (wIf (wTest (wOp gEq (wOp gIx (wVar 4) (wC (.int 2))) (wC (.str (Str.ofString "down"))))) (wOp gSub (wVar 6) (wC (.int 1))) (wC (.int 0))) (wName 7))
    (wSeq (wAsg (wOp gAdd (wVar 7) (wCallF (wLen 1 w__law_great) [] (wCons (wVar 0) wNil))) (wName 8))
    (wSeq (wIfS (wTest (wOp gEq (wCallF (wLen 2 w__law_draw) [] (wCons (wVar 0) (wCons (wC (.int 9)) wNil))) (wC (.int 0)))) (wAsg (wOp gSub (wVar 7) (wC (.int 1))) (wName 8)) wSkip)
    (wExpr (wIns 3 (wCallF (wLen 2 w__law_draw) [] (wCons (wVar 0) (wCons (wOp gAdd (wLenO 3) (wC (.int 1))) wNil))) (wTup (wCons (wVar 5) (wCons (wVar 8) wNil)))))))) wSkip))
    (wRet (wVar 3))))
@[irreducible] def w__law_pairs : WF := fun ds n q => B__law_pairs { nx := fun _ n => q .non n, rt := q } (slots0 ds 6) n
def B__law_right : WS :=
  (wSeq (wParFV 6 7 (wLst wNil) (wC (.bl false)))
    (wSeq (wFor (iZm (wCons (wVar 1) (wCons (wVar 2) wNil))) (wTupG 2 (wConsG (wTupG 2 (wConsG (wName 9) (wConsG (wName 10) wNilG))) (wConsG (wTupG 3 (wConsG (wName 11) (wConsG (wName 12) (wConsG (wName 13) wNilG)))) wNilG)))
    (wSeq (wAsg (wOp gAdd (wLc (iL (wVar 3)) (wTupG 2 (wConsG (wName 14) (wConsG (wName 15) wNilG))) (wTest (wOp gEq (wVar 14) (wVar 9))) (wVar 15) [14, 15]) (wLst (wCons (wVar 12) wNil))) (wName 8))
    (wSeq (wExpr (wApp 6 (wTup (wCons (wVar 9) (wCons (wOp gIx (wVar 8) (wC (.int 0))) (wCons (wVar 13) wNil))))))
    (wAsg (wOr (wVar 7) (wOp gLtA (wOp gIx (wVar 8) (wC (.int 0))) (wIf (wTest (wOp gEq (wVar 13) (wC (.str (Str.ofString "down"))))) (wOp gSub (wVar 10) (wC (.int 1))) (wC (.int 0))))) (wName 7)))))
    (wSeq (wAsg (wC .non) (wName 4))
    (wSeq (wTry "NoPlacement" (wAsgX (wCallX (wLenX 2 w__law_moved) (wCons (wVar 0) (wCons (wVar 3) wNil))) (wName 4))
    (wRet (wAnd (wVar 7) (wOp gEqS (wRepr (wCons (wUn (gFld "Placement" "places") (wVar 0)) wNil)) (wRepr (wCons (wCB gTuple (wCons (wVar 2) wNil)) wNil))))))
    (wSeq (wIfS (vOr (wTest (wVar 7)) (vOr (wTest (wOp gNeS (wRepr (wCons (wUn (gFld "Placement" "places") (wVar 4)) wNil)) (wRepr (wCons (wCB gTuple (wCons (wVar 6) wNil)) wNil)))) (wTest (wEqO "Program" ["Program", "Placement"] true w_Program___eq__ (wUn (gFld "Placement" "program") (wVar 4)) (wUn (gFld "Placement" "program") (wVar 0)))))) (wRet (wC (.bl false))) wSkip)
    (wSeq (wAsg (wCallF (wLen 2 (noX w__law_moved)) [] (wCons (wVar 4) (wCons (wLc (iL (wVar 2)) (wTupG 3 (wConsG (wName 9) (wConsG (wName 12) (wConsG (wName 13) wNilG)))) vYes (wTup (wCons (wVar 9) (wCons (wVar 12) wNil))) [9, 12, 13]) wNil))) (wName 5))
    (wSeq (wIfS (vOr (wTest (wOp gNeS (wRepr (wCons (wUn (gFld "Placement" "places") (wVar 0)) wNil)) (wRepr (wCons (wCB gTuple (wCons (wVar 2) wNil)) wNil)))) (vNot (wTest (wEqO "Placement" ["Program", "Placement"] false w_Placement___eq__ (wVar 5) (wVar 0))))) (wRet (wC (.bl false))) wSkip)
    (wRet (wOp gEq (wEqO "Placement" ["Program", "Placement"] false w_Placement___eq__ (wVar 4) (wVar 0)) (wOp gEq (wVar 6) (wVar 2)))))))))))
@[irreducible] def w__law_right : WF := fun ds n q => B__law_right { nx := fun _ n => q .non n, rt := q } (slots0 ds 12) n
def B__law_apart_right : WS :=
  (wSeq (wParFV 2 3 (wLst wNil) (wC (.int 0)))
    (wSeq (wFor (iT (wUn (gFld "Program" "arrays") (wVar 0))) (wTupG 2 (wConsG (wName 4) (wConsG (wName 5) wNilG)))
    (wSeq (wExpr (wApp 2 (wTup (wCons (wVar 4) (wCons (wVar 3) (wCons (wC (.str (Str.ofString "up"))) wNil))))))
    (wAsg (wOp gAdd (wVar 3) (wVar 5)) (wName 3))))
    (wSeq (wAsg (wCMethK "Placement" w_Placement_apart (wVar 0)) (wName 1))
    (wRet (wAnd (wCB (gIsiO isiOs) (wCons (wVar 1) (wCons (wC (.cls "Placement")) wNil))) (wAnd (wOp gEqS (wRepr (wCons (wUn (gFld "Placement" "places") (wVar 1)) wNil)) (wRepr (wCons (wCB gTuple (wCons (wVar 2) wNil)) wNil))) (wOp gEq (wProp "Placement" w_Placement_size (wVar 1)) (wVar 3))))))))
@[irreducible] def w__law_apart_right : WF := fun ds n q => B__law_apart_right { nx := fun _ n => q .non n, rt := q } (slots0 ds 5) n
end K22
end
section
namespace K22
open PySem DL L2
theorem opt_i {α : Type} {o : Option α} {d : α} {Q : α → Prop} (h : o = some d) (k : Q d) : opt o Q := by rw [h]; exact k
theorem rec_t {c : Prop} {i : Decidable c} (h : c) {A : c → Prop} {B : ¬ c → Prop} (k : ∀ x, A x) : @Decidable.rec c (fun _ => Prop) B A i := by
  cases i with
  | isTrue x => exact k x
  | isFalse x => exact absurd h x
theorem rec_f {c : Prop} {i : Decidable c} (h : ¬ c) {A : c → Prop} {B : ¬ c → Prop} (k : ∀ x, B x) : @Decidable.rec c (fun _ => Prop) B A i := by
  cases i with
  | isTrue x => exact absurd x h
  | isFalse x => exact k x
theorem val3 {R : WQ} {d d' : D} {ρ : Sl} {n : Nat} (e : d = d') (h : R d' ρ n) : R d ρ n := e ▸ h
theorem val2 {q : D → Nat → Prop} {d d' : D} {n : Nat} (e : d = d') (h : q d' n) : q d n := e ▸ h
def letters : Str := "abcdefghijklmnopqrstuvwxyzABCDEFGHIJKLMNOPQRSTUVWXYZ"
structure NameOk (s : Str) : Prop where
  lo : 1 ≤ s.length
  hi : s.length ≤ 8
  all : ∀ c ∈ s.cps.toList, c ∈ letters.cps.toList
theorem gAll_true {ds : List D} (h : ∀ d ∈ ds, d = .bl true) : gAll [.lst ds] = some (.bl true) := by
  have e : ds = (ds.map fun _ => true).map D.bl := by
    rw [List.map_map]
    conv => lhs; rw [← List.map_id ds]
    exact List.map_congr_left fun d hd => h d hd
  show (blsOf ds).map (fun bs => D.bl (bs.all _root_.id)) = _
  rw [e, blsOf_map]
  simp
theorem gLen_str {s : Str} (h : s.length ≤ 100000) : gLen [.str s] = some (.int s.length) := if_pos h
theorem gLtA_st (s t : Str) : gLtA (.str s) (.str t) = some (.bl (ltSt s t)) := rfl
theorem pairs_all {ns : List Str} (h : ns.Pairwise fun a b => ltSt a b = true) : ∀ d ∈ pairsD (ns.map D.str) ((ns.map D.str).drop 1), ∃ a b, d = .tup [.str a, .str b] ∧ ltSt a b = true := by
  intro d hd
  obtain ⟨i, hi⟩ := List.mem_iff_getElem?.mp hd
  obtain ⟨x, y, h1, h2, rfl⟩ := pairsD_get hi
  rw [List.getElem?_map] at h1
  rw [List.getElem?_drop, List.getElem?_map] at h2
  obtain ⟨a, ha, rfl⟩ := Option.map_eq_some_iff.mp h1
  obtain ⟨b, hb, rfl⟩ := Option.map_eq_some_iff.mp h2
  refine ⟨a, b, rfl, ?_⟩
  obtain ⟨l1, rfl⟩ := List.getElem?_eq_some_iff.mp ha
  obtain ⟨l2, rfl⟩ := List.getElem?_eq_some_iff.mp hb
  exact List.pairwise_iff_getElem.mp h _ _ l1 l2 (by omega)
theorem cut1 {α : Type} (xs : List α) : cutD xs (some 1) none = xs.drop 1 := by
  unfold cutD
  have e1 : HT.sIx xs.length 0 (some 1) = min 1 xs.length := by
    simp [HT.sIx]
  have e2 : HT.sIx xs.length xs.length none = xs.length := rfl
  rw [e1, e2]
  cases xs with
  | nil => rfl
  | cons x xs => simp
theorem has_str {ns : List Str} {nm : Str} (h : nm ∈ ns) : (ns.map D.str).any (fun y => eqD y (.str nm)) = true := by
  rw [List.any_eq_true]
  exact ⟨.str nm, List.mem_map.mpr ⟨nm, h, rfl⟩, by simp [eqD]⟩
theorem flat_strs (ns : List Str) : (ns.map D.str).all flatD = true := by simp [flatD]
theorem gIn_str {ns : List Str} {nm : Str} (h : nm ∈ ns) (b : Bool) : gIn b (.str nm) (.lst (ns.map D.str)) = some (.bl (!b)) := by
  show hasD (.str nm) (ns.map D.str) b = _
  unfold hasD
  rw [if_pos ⟨rfl, flat_strs ns⟩, has_str h]
  cases b <;> rfl
section
variable {n : Nat} {q : D → Nat → Prop}
theorem s_is_integer {i : Int} (h : q (.bl true) n) : w_is_integer [.int i] n q := by
  unfold w_is_integer
  (try simp only [slots0, wipeS, backS, List.map_cons, List.map_nil, List.replicate, List.set_cons_zero, List.set_cons_succ, List.getElem?_cons_zero, List.getElem?_cons_succ, List.cons_append, List.nil_append]); (repeat ((conv => whnf); (first | (refine And.intro (by first | rfl | exact Nat.le_of_ble_eq_true rfl | decide | omega | (simp; done) | (simp; omega)) ?_) | (refine rec_t (by first | (simp; done) | (simp; omega) | omega) (fun _ => ?_)) | (refine rec_f (by first | (simp; done) | (simp; omega) | omega) (fun _ => ?_)) | (refine opt_i (gLen_str (by first | (simp; done) | (simp; omega) | omega)) ?_) | (refine opt_i (gDiv_pos (by first | (simp; done) | (simp; omega) | omega) (by first | (simp; done) | (simp; omega) | omega)) ?_) | (refine opt_i (gMd_pos (by first | (simp; done) | (simp; omega) | omega)) ?_)))); (conv => whnf)
  exact h
theorem s_is_amount {i : Int} (h1 : 1 ≤ i) (h2 : i ≤ 1000000000000000000) (h : q (.bl true) n) : w_is_amount [.int i] n q := by
  unfold w_is_amount
  (try simp only [slots0, wipeS, backS, List.map_cons, List.map_nil, List.replicate, List.set_cons_zero, List.set_cons_succ, List.getElem?_cons_zero, List.getElem?_cons_succ, List.cons_append, List.nil_append]); (repeat ((conv => whnf); (first | (refine And.intro (by first | rfl | exact Nat.le_of_ble_eq_true rfl | decide | omega | (simp; done) | (simp; omega)) ?_) | (refine rec_t (by first | (simp; done) | (simp; omega) | omega) (fun _ => ?_)) | (refine rec_f (by first | (simp; done) | (simp; omega) | omega) (fun _ => ?_)) | (refine opt_i (gLen_str (by first | (simp; done) | (simp; omega) | omega)) ?_) | (refine opt_i (gDiv_pos (by first | (simp; done) | (simp; omega) | omega) (by first | (simp; done) | (simp; omega) | omega)) ?_) | (refine opt_i (gMd_pos (by first | (simp; done) | (simp; omega) | omega)) ?_)))); (conv => whnf)
  apply s_is_integer
  (try simp only [slots0, wipeS, backS, List.map_cons, List.map_nil, List.replicate, List.set_cons_zero, List.set_cons_succ, List.getElem?_cons_zero, List.getElem?_cons_succ, List.cons_append, List.nil_append]); (repeat ((conv => whnf); (first | (refine And.intro (by first | rfl | exact Nat.le_of_ble_eq_true rfl | decide | omega | (simp [h1, h2]; done) | (simp [h1, h2]; omega)) ?_) | (refine rec_t (by first | (simp [h1, h2]; done) | (simp [h1, h2]; omega) | omega) (fun _ => ?_)) | (refine rec_f (by first | (simp [h1, h2]; done) | (simp [h1, h2]; omega) | omega) (fun _ => ?_)) | (refine opt_i (gLen_str (by first | (simp [h1, h2]; done) | (simp [h1, h2]; omega) | omega)) ?_) | (refine opt_i (gDiv_pos (by first | (simp [h1, h2]; done) | (simp [h1, h2]; omega) | omega) (by first | (simp [h1, h2]; done) | (simp [h1, h2]; omega) | omega)) ?_) | (refine opt_i (gMd_pos (by first | (simp [h1, h2]; done) | (simp [h1, h2]; omega) | omega)) ?_)))); (conv => whnf)
  simpa [h2] using h
theorem s_is_name {s : Str} (ok : NameOk s) (h : q (.bl true) n) : w_is_name [.str s] n q := by
  have h1 := ok.lo
  have h2 := ok.hi
  unfold w_is_name
  (try simp only [slots0, wipeS, backS, List.map_cons, List.map_nil, List.replicate, List.set_cons_zero, List.set_cons_succ, List.getElem?_cons_zero, List.getElem?_cons_succ, List.cons_append, List.nil_append]); (repeat ((conv => whnf); (first | (refine And.intro (by first | rfl | exact Nat.le_of_ble_eq_true rfl | decide | omega | (simp [h1, h2]; done) | (simp [h1, h2]; omega)) ?_) | (refine rec_t (by first | (simp [h1, h2]; done) | (simp [h1, h2]; omega) | omega) (fun _ => ?_)) | (refine rec_f (by first | (simp [h1, h2]; done) | (simp [h1, h2]; omega) | omega) (fun _ => ?_)) | (refine opt_i (gLen_str (by first | (simp [h1, h2]; done) | (simp [h1, h2]; omega) | omega)) ?_) | (refine opt_i (gDiv_pos (by first | (simp [h1, h2]; done) | (simp [h1, h2]; omega) | omega) (by first | (simp [h1, h2]; done) | (simp [h1, h2]; omega) | omega)) ?_) | (refine opt_i (gMd_pos (by first | (simp [h1, h2]; done) | (simp [h1, h2]; omega) | omega)) ?_)))); (conv => whnf)
  refine comp_map (fun _ => .bl true) _ _ (fun d hd R hR => ?_) ?_ ?_
  · obtain ⟨c, hc, rfl⟩ := List.mem_map.mp hd
    have hm : c ∈ letters.cps.toList := ok.all c hc
    (try simp only [slots0, wipeS, backS, List.map_cons, List.map_nil, List.replicate, List.set_cons_zero, List.set_cons_succ, List.getElem?_cons_zero, List.getElem?_cons_succ, List.cons_append, List.nil_append]); (repeat ((conv => whnf); (first | (refine And.intro (by first | rfl | exact Nat.le_of_ble_eq_true rfl | decide | omega | (simp; done) | (simp; omega)) ?_) | (refine rec_t (by first | (simp; done) | (simp; omega) | omega) (fun _ => ?_)) | (refine rec_f (by first | (simp; done) | (simp; omega) | omega) (fun _ => ?_)) | (refine opt_i (gLen_str (by first | (simp; done) | (simp; omega) | omega)) ?_) | (refine opt_i (gDiv_pos (by first | (simp; done) | (simp; omega) | omega) (by first | (simp; done) | (simp; omega) | omega)) ?_) | (refine opt_i (gMd_pos (by first | (simp; done) | (simp; omega) | omega)) ?_)))); (conv => whnf)
    refine val3 (d' := .bl true) ?_ (hR _ (by rfl) (by rfl))
    exact congrArg D.bl (decide_eq_true hm)
  · simp [signsD]
    have : s.cps.size = s.length := rfl
    omega
  · (try simp only [slots0, wipeS, backS, List.map_cons, List.map_nil, List.replicate, List.set_cons_zero, List.set_cons_succ, List.getElem?_cons_zero, List.getElem?_cons_succ, List.cons_append, List.nil_append]); (repeat ((conv => whnf); (first | (refine And.intro (by first | rfl | exact Nat.le_of_ble_eq_true rfl | decide | omega | (simp; done) | (simp; omega)) ?_) | (refine rec_t (by first | (simp; done) | (simp; omega) | omega) (fun _ => ?_)) | (refine rec_f (by first | (simp; done) | (simp; omega) | omega) (fun _ => ?_)) | (refine opt_i (gLen_str (by first | (simp; done) | (simp; omega) | omega)) ?_) | (refine opt_i (gDiv_pos (by first | (simp; done) | (simp; omega) | omega) (by first | (simp; done) | (simp; omega) | omega)) ?_) | (refine opt_i (gMd_pos (by first | (simp; done) | (simp; omega) | omega)) ?_)))); (conv => whnf)
    exact opt_i (gAll_true (by simp [signsD])) h
theorem s_are_ascending {ns : List Str} (hl : ns.length ≤ 1000) (h : ns.Pairwise fun a b => ltSt a b = true) (k : q (.bl true) n) : w_are_ascending [.lst (ns.map .str)] n q := by
  unfold w_are_ascending
  (try simp only [slots0, wipeS, backS, List.map_cons, List.map_nil, List.replicate, List.set_cons_zero, List.set_cons_succ, List.getElem?_cons_zero, List.getElem?_cons_succ, List.cons_append, List.nil_append]); (repeat ((conv => whnf); (first | (refine And.intro (by first | rfl | exact Nat.le_of_ble_eq_true rfl | decide | omega | (simp; done) | (simp; omega)) ?_) | (refine rec_t (by first | (simp; done) | (simp; omega) | omega) (fun _ => ?_)) | (refine rec_f (by first | (simp; done) | (simp; omega) | omega) (fun _ => ?_)) | (refine opt_i (gLen_str (by first | (simp; done) | (simp; omega) | omega)) ?_) | (refine opt_i (gDiv_pos (by first | (simp; done) | (simp; omega) | omega) (by first | (simp; done) | (simp; omega) | omega)) ?_) | (refine opt_i (gMd_pos (by first | (simp; done) | (simp; omega) | omega)) ?_)))); (conv => whnf)
  refine comp_map (fun _ => .bl true) _ _ (fun d hd R hR => ?_) ?_ ?_
  · rw [cut1] at hd
    obtain ⟨a, b, rfl, e⟩ := pairs_all h d hd
    (try simp only [slots0, wipeS, backS, List.map_cons, List.map_nil, List.replicate, List.set_cons_zero, List.set_cons_succ, List.getElem?_cons_zero, List.getElem?_cons_succ, List.cons_append, List.nil_append]); (repeat ((conv => whnf); (first | (refine And.intro (by first | rfl | exact Nat.le_of_ble_eq_true rfl | decide | omega | (simp; done) | (simp; omega)) ?_) | (refine rec_t (by first | (simp; done) | (simp; omega) | omega) (fun _ => ?_)) | (refine rec_f (by first | (simp; done) | (simp; omega) | omega) (fun _ => ?_)) | (refine opt_i (gLen_str (by first | (simp; done) | (simp; omega) | omega)) ?_) | (refine opt_i (gDiv_pos (by first | (simp; done) | (simp; omega) | omega) (by first | (simp; done) | (simp; omega) | omega)) ?_) | (refine opt_i (gMd_pos (by first | (simp; done) | (simp; omega) | omega)) ?_)))); (conv => whnf)
    exact val3 (d' := .bl true) (congrArg D.bl e) (hR _ (by rfl) (by rfl))
  · simp [pairsD]
    omega
  · (try simp only [slots0, wipeS, backS, List.map_cons, List.map_nil, List.replicate, List.set_cons_zero, List.set_cons_succ, List.getElem?_cons_zero, List.getElem?_cons_succ, List.cons_append, List.nil_append]); (repeat ((conv => whnf); (first | (refine And.intro (by first | rfl | exact Nat.le_of_ble_eq_true rfl | decide | omega | (simp; done) | (simp; omega)) ?_) | (refine rec_t (by first | (simp; done) | (simp; omega) | omega) (fun _ => ?_)) | (refine rec_f (by first | (simp; done) | (simp; omega) | omega) (fun _ => ?_)) | (refine opt_i (gLen_str (by first | (simp; done) | (simp; omega) | omega)) ?_) | (refine opt_i (gDiv_pos (by first | (simp; done) | (simp; omega) | omega) (by first | (simp; done) | (simp; omega) | omega)) ?_) | (refine opt_i (gMd_pos (by first | (simp; done) | (simp; omega) | omega)) ?_)))); (conv => whnf)
    exact opt_i (gAll_true (by simp)) k
theorem s_are_ascending0 (k : q (.bl true) n) : w_are_ascending [.tup []] n q := by
  unfold w_are_ascending
  (try simp only [slots0, wipeS, backS, List.map_cons, List.map_nil, List.replicate, List.set_cons_zero, List.set_cons_succ, List.getElem?_cons_zero, List.getElem?_cons_succ, List.cons_append, List.nil_append]); (repeat ((conv => whnf); (first | (refine And.intro (by first | rfl | exact Nat.le_of_ble_eq_true rfl | decide | omega | (simp; done) | (simp; omega)) ?_) | (refine rec_t (by first | (simp; done) | (simp; omega) | omega) (fun _ => ?_)) | (refine rec_f (by first | (simp; done) | (simp; omega) | omega) (fun _ => ?_)) | (refine opt_i (gLen_str (by first | (simp; done) | (simp; omega) | omega)) ?_) | (refine opt_i (gDiv_pos (by first | (simp; done) | (simp; omega) | omega) (by first | (simp; done) | (simp; omega) | omega)) ?_) | (refine opt_i (gMd_pos (by first | (simp; done) | (simp; omega) | omega)) ?_)))); (conv => whnf)
  exact k
theorem s_is_access {ns : List Str} {nm : Str} {c d : Int} (h : nm ∈ ns) (c1 : -3 ≤ c) (c2 : c ≤ 3) (d1 : -10000000000000000000 < d) (d2 : d < 10000000000000000000) (k : q (.bl true) n) : w_is_access [.tup [.str nm, .int c, .int d], .lst (ns.map .str)] n q := by
  unfold w_is_access
  (try simp only [slots0, wipeS, backS, List.map_cons, List.map_nil, List.replicate, List.set_cons_zero, List.set_cons_succ, List.getElem?_cons_zero, List.getElem?_cons_succ, List.cons_append, List.nil_append]); (repeat ((conv => whnf); (first | (refine And.intro (by first | rfl | exact Nat.le_of_ble_eq_true rfl | decide | omega | (simp; done) | (simp; omega)) ?_) | (refine rec_t (by first | (simp; done) | (simp; omega) | omega) (fun _ => ?_)) | (refine rec_f (by first | (simp; done) | (simp; omega) | omega) (fun _ => ?_)) | (refine opt_i (gLen_str (by first | (simp; done) | (simp; omega) | omega)) ?_) | (refine opt_i (gDiv_pos (by first | (simp; done) | (simp; omega) | omega) (by first | (simp; done) | (simp; omega) | omega)) ?_) | (refine opt_i (gMd_pos (by first | (simp; done) | (simp; omega) | omega)) ?_)))); (conv => whnf)
  refine opt_i (gIn_str h true) ?_
  (try simp only [slots0, wipeS, backS, List.map_cons, List.map_nil, List.replicate, List.set_cons_zero, List.set_cons_succ, List.getElem?_cons_zero, List.getElem?_cons_succ, List.cons_append, List.nil_append]); (repeat ((conv => whnf); (first | (refine And.intro (by first | rfl | exact Nat.le_of_ble_eq_true rfl | decide | omega | (simp; done) | (simp; omega)) ?_) | (refine rec_t (by first | (simp; done) | (simp; omega) | omega) (fun _ => ?_)) | (refine rec_f (by first | (simp; done) | (simp; omega) | omega) (fun _ => ?_)) | (refine opt_i (gLen_str (by first | (simp; done) | (simp; omega) | omega)) ?_) | (refine opt_i (gDiv_pos (by first | (simp; done) | (simp; omega) | omega) (by first | (simp; done) | (simp; omega) | omega)) ?_) | (refine opt_i (gMd_pos (by first | (simp; done) | (simp; omega) | omega)) ?_)))); (conv => whnf)
  apply s_is_integer
  (try simp only [slots0, wipeS, backS, List.map_cons, List.map_nil, List.replicate, List.set_cons_zero, List.set_cons_succ, List.getElem?_cons_zero, List.getElem?_cons_succ, List.cons_append, List.nil_append]); (repeat ((conv => whnf); (first | (refine And.intro (by first | rfl | exact Nat.le_of_ble_eq_true rfl | decide | omega | (simp [c1, c2]; done) | (simp [c1, c2]; omega)) ?_) | (refine rec_t (by first | (simp [c1, c2]; done) | (simp [c1, c2]; omega) | omega) (fun _ => ?_)) | (refine rec_f (by first | (simp [c1, c2]; done) | (simp [c1, c2]; omega) | omega) (fun _ => ?_)) | (refine opt_i (gLen_str (by first | (simp [c1, c2]; done) | (simp [c1, c2]; omega) | omega)) ?_) | (refine opt_i (gDiv_pos (by first | (simp [c1, c2]; done) | (simp [c1, c2]; omega) | omega) (by first | (simp [c1, c2]; done) | (simp [c1, c2]; omega) | omega)) ?_) | (refine opt_i (gMd_pos (by first | (simp [c1, c2]; done) | (simp [c1, c2]; omega) | omega)) ?_)))); (conv => whnf)
  apply s_is_integer
  (try simp only [slots0, wipeS, backS, List.map_cons, List.map_nil, List.replicate, List.set_cons_zero, List.set_cons_succ, List.getElem?_cons_zero, List.getElem?_cons_succ, List.cons_append, List.nil_append]); (repeat ((conv => whnf); (first | (refine And.intro (by first | rfl | exact Nat.le_of_ble_eq_true rfl | decide | omega | (simp [d1, d2]; done) | (simp [d1, d2]; omega)) ?_) | (refine rec_t (by first | (simp [d1, d2]; done) | (simp [d1, d2]; omega) | omega) (fun _ => ?_)) | (refine rec_f (by first | (simp [d1, d2]; done) | (simp [d1, d2]; omega) | omega) (fun _ => ?_)) | (refine opt_i (gLen_str (by first | (simp [d1, d2]; done) | (simp [d1, d2]; omega) | omega)) ?_) | (refine opt_i (gDiv_pos (by first | (simp [d1, d2]; done) | (simp [d1, d2]; omega) | omega) (by first | (simp [d1, d2]; done) | (simp [d1, d2]; omega) | omega)) ?_) | (refine opt_i (gMd_pos (by first | (simp [d1, d2]; done) | (simp [d1, d2]; omega) | omega)) ?_)))); (conv => whnf)
  exact val2 (d' := .bl true) (congrArg D.bl (decide_eq_true d2)) k
theorem s_is_statement {ns : List Str} {nm : Str} {d : Int} (h : nm ∈ ns) (d1 : 0 ≤ d) (d2 : d < 10000000000000000000) (k : q (.bl true) n) : w_is_statement [.tup [.str nm, .int 0, .int d, .tup []], .lst (ns.map .str), .int 1] n q := by
  unfold w_is_statement
  (try simp only [slots0, wipeS, backS, List.map_cons, List.map_nil, List.replicate, List.set_cons_zero, List.set_cons_succ, List.getElem?_cons_zero, List.getElem?_cons_succ, List.cons_append, List.nil_append]); (repeat ((conv => whnf); (first | (refine And.intro (by first | rfl | exact Nat.le_of_ble_eq_true rfl | decide | omega | (simp; done) | (simp; omega)) ?_) | (refine rec_t (by first | (simp; done) | (simp; omega) | omega) (fun _ => ?_)) | (refine rec_f (by first | (simp; done) | (simp; omega) | omega) (fun _ => ?_)) | (refine opt_i (gLen_str (by first | (simp; done) | (simp; omega) | omega)) ?_) | (refine opt_i (gDiv_pos (by first | (simp; done) | (simp; omega) | omega) (by first | (simp; done) | (simp; omega) | omega)) ?_) | (refine opt_i (gMd_pos (by first | (simp; done) | (simp; omega) | omega)) ?_)))); (conv => whnf)
  apply s_is_access h (by decide) (by decide) (by omega) d2
  (try simp only [slots0, wipeS, backS, List.map_cons, List.map_nil, List.replicate, List.set_cons_zero, List.set_cons_succ, List.getElem?_cons_zero, List.getElem?_cons_succ, List.cons_append, List.nil_append]); (repeat ((conv => whnf); (first | (refine And.intro (by first | rfl | exact Nat.le_of_ble_eq_true rfl | decide | omega | (simp; done) | (simp; omega)) ?_) | (refine rec_t (by first | (simp; done) | (simp; omega) | omega) (fun _ => ?_)) | (refine rec_f (by first | (simp; done) | (simp; omega) | omega) (fun _ => ?_)) | (refine opt_i (gLen_str (by first | (simp; done) | (simp; omega) | omega)) ?_) | (refine opt_i (gDiv_pos (by first | (simp; done) | (simp; omega) | omega) (by first | (simp; done) | (simp; omega) | omega)) ?_) | (refine opt_i (gMd_pos (by first | (simp; done) | (simp; omega) | omega)) ?_)))); (conv => whnf)
  exact k
def stmtD (nm : Str) (d : Int) : D := .tup [.str nm, .int 0, .int d, .tup []]
def loopsD (nm : Str) (d : Int) : D := .tup [.tup [.int 1, .tup [stmtD nm d]]]
theorem s_are_loops {ns : List Str} {nm : Str} {d : Int} (h : nm ∈ ns) (d1 : 0 ≤ d) (d2 : d < 10000000000000000000) (k : q (.bl true) n) : w_are_loops [loopsD nm d, .lst (ns.map .str)] n q := by
  unfold w_are_loops
  (try simp only [slots0, wipeS, backS, List.map_cons, List.map_nil, List.replicate, List.set_cons_zero, List.set_cons_succ, List.getElem?_cons_zero, List.getElem?_cons_succ, List.cons_append, List.nil_append]); (repeat ((conv => whnf); (first | (refine And.intro (by first | rfl | exact Nat.le_of_ble_eq_true rfl | decide | omega | (simp; done) | (simp; omega)) ?_) | (refine rec_t (by first | (simp; done) | (simp; omega) | omega) (fun _ => ?_)) | (refine rec_f (by first | (simp; done) | (simp; omega) | omega) (fun _ => ?_)) | (refine opt_i (gLen_str (by first | (simp; done) | (simp; omega) | omega)) ?_) | (refine opt_i (gDiv_pos (by first | (simp; done) | (simp; omega) | omega) (by first | (simp; done) | (simp; omega) | omega)) ?_) | (refine opt_i (gMd_pos (by first | (simp; done) | (simp; omega) | omega)) ?_)))); (conv => whnf)
  apply s_is_amount (by decide) (by decide)
  (try simp only [slots0, wipeS, backS, List.map_cons, List.map_nil, List.replicate, List.set_cons_zero, List.set_cons_succ, List.getElem?_cons_zero, List.getElem?_cons_succ, List.cons_append, List.nil_append]); (repeat ((conv => whnf); (first | (refine And.intro (by first | rfl | exact Nat.le_of_ble_eq_true rfl | decide | omega | (simp; done) | (simp; omega)) ?_) | (refine rec_t (by first | (simp; done) | (simp; omega) | omega) (fun _ => ?_)) | (refine rec_f (by first | (simp; done) | (simp; omega) | omega) (fun _ => ?_)) | (refine opt_i (gLen_str (by first | (simp; done) | (simp; omega) | omega)) ?_) | (refine opt_i (gDiv_pos (by first | (simp; done) | (simp; omega) | omega) (by first | (simp; done) | (simp; omega) | omega)) ?_) | (refine opt_i (gMd_pos (by first | (simp; done) | (simp; omega) | omega)) ?_)))); (conv => whnf)
  apply s_is_statement h d1 d2
  (try simp only [slots0, wipeS, backS, List.map_cons, List.map_nil, List.replicate, List.set_cons_zero, List.set_cons_succ, List.getElem?_cons_zero, List.getElem?_cons_succ, List.cons_append, List.nil_append]); (repeat ((conv => whnf); (first | (refine And.intro (by first | rfl | exact Nat.le_of_ble_eq_true rfl | decide | omega | (simp; done) | (simp; omega)) ?_) | (refine rec_t (by first | (simp; done) | (simp; omega) | omega) (fun _ => ?_)) | (refine rec_f (by first | (simp; done) | (simp; omega) | omega) (fun _ => ?_)) | (refine opt_i (gLen_str (by first | (simp; done) | (simp; omega) | omega)) ?_) | (refine opt_i (gDiv_pos (by first | (simp; done) | (simp; omega) | omega) (by first | (simp; done) | (simp; omega) | omega)) ?_) | (refine opt_i (gMd_pos (by first | (simp; done) | (simp; omega) | omega)) ?_)))); (conv => whnf)
  exact k
theorem s_are_outputs {ns : List Str} (k : q (.bl true) n) : w_are_outputs [.tup [], .lst (ns.map .str)] n q := by
  unfold w_are_outputs
  (try simp only [slots0, wipeS, backS, List.map_cons, List.map_nil, List.replicate, List.set_cons_zero, List.set_cons_succ, List.getElem?_cons_zero, List.getElem?_cons_succ, List.cons_append, List.nil_append]); (repeat ((conv => whnf); (first | (refine And.intro (by first | rfl | exact Nat.le_of_ble_eq_true rfl | decide | omega | (simp; done) | (simp; omega)) ?_) | (refine rec_t (by first | (simp; done) | (simp; omega) | omega) (fun _ => ?_)) | (refine rec_f (by first | (simp; done) | (simp; omega) | omega) (fun _ => ?_)) | (refine opt_i (gLen_str (by first | (simp; done) | (simp; omega) | omega)) ?_) | (refine opt_i (gDiv_pos (by first | (simp; done) | (simp; omega) | omega) (by first | (simp; done) | (simp; omega) | omega)) ?_) | (refine opt_i (gMd_pos (by first | (simp; done) | (simp; omega) | omega)) ?_)))); (conv => whnf)
  apply s_are_ascending0
  (try simp only [slots0, wipeS, backS, List.map_cons, List.map_nil, List.replicate, List.set_cons_zero, List.set_cons_succ, List.getElem?_cons_zero, List.getElem?_cons_succ, List.cons_append, List.nil_append]); (repeat ((conv => whnf); (first | (refine And.intro (by first | rfl | exact Nat.le_of_ble_eq_true rfl | decide | omega | (simp; done) | (simp; omega)) ?_) | (refine rec_t (by first | (simp; done) | (simp; omega) | omega) (fun _ => ?_)) | (refine rec_f (by first | (simp; done) | (simp; omega) | omega) (fun _ => ?_)) | (refine opt_i (gLen_str (by first | (simp; done) | (simp; omega) | omega)) ?_) | (refine opt_i (gDiv_pos (by first | (simp; done) | (simp; omega) | omega) (by first | (simp; done) | (simp; omega) | omega)) ?_) | (refine opt_i (gMd_pos (by first | (simp; done) | (simp; omega) | omega)) ?_)))); (conv => whnf)
  exact k
def writersD (nm : Str) (d : Int) : D := .tup [.tup [.tup [.int 0, .int 0], .str nm, .tup [.int 0, .int d, .int 1]]]
theorem s_all_writers {nm : Str} {d : Int} (k : q (writersD nm d) n) : w_all_writers [loopsD nm d] n q := by
  unfold w_all_writers
  (try simp only [slots0, wipeS, backS, List.map_cons, List.map_nil, List.replicate, List.set_cons_zero, List.set_cons_succ, List.getElem?_cons_zero, List.getElem?_cons_succ, List.cons_append, List.nil_append]); (repeat ((conv => whnf); (first | (refine And.intro (by first | rfl | exact Nat.le_of_ble_eq_true rfl | decide | omega | (simp; done) | (simp; omega)) ?_) | (refine rec_t (by first | (simp; done) | (simp; omega) | omega) (fun _ => ?_)) | (refine rec_f (by first | (simp; done) | (simp; omega) | omega) (fun _ => ?_)) | (refine opt_i (gLen_str (by first | (simp; done) | (simp; omega) | omega)) ?_) | (refine opt_i (gDiv_pos (by first | (simp; done) | (simp; omega) | omega) (by first | (simp; done) | (simp; omega) | omega)) ?_) | (refine opt_i (gMd_pos (by first | (simp; done) | (simp; omega) | omega)) ?_)))); (conv => whnf)
  exact k
theorem s_all_reads {nm : Str} {d : Int} (k : q (.tup []) n) : w_all_reads [loopsD nm d] n q := by
  unfold w_all_reads
  (try simp only [slots0, wipeS, backS, List.map_cons, List.map_nil, List.replicate, List.set_cons_zero, List.set_cons_succ, List.getElem?_cons_zero, List.getElem?_cons_succ, List.cons_append, List.nil_append]); (repeat ((conv => whnf); (first | (refine And.intro (by first | rfl | exact Nat.le_of_ble_eq_true rfl | decide | omega | (simp; done) | (simp; omega)) ?_) | (refine rec_t (by first | (simp; done) | (simp; omega) | omega) (fun _ => ?_)) | (refine rec_f (by first | (simp; done) | (simp; omega) | omega) (fun _ => ?_)) | (refine opt_i (gLen_str (by first | (simp; done) | (simp; omega) | omega)) ?_) | (refine opt_i (gDiv_pos (by first | (simp; done) | (simp; omega) | omega) (by first | (simp; done) | (simp; omega) | omega)) ?_) | (refine opt_i (gMd_pos (by first | (simp; done) | (simp; omega) | omega)) ?_)))); (conv => whnf)
  exact k
theorem s_first_out {d size : Int} (h1 : 0 ≤ d) (h2 : d < size) (k : q .non n) : w_first_out [.tup [.int 0, .int d, .int 1], .int size] n q := by
  unfold w_first_out
  (try simp only [slots0, wipeS, backS, List.map_cons, List.map_nil, List.replicate, List.set_cons_zero, List.set_cons_succ, List.getElem?_cons_zero, List.getElem?_cons_succ, List.cons_append, List.nil_append]); (repeat ((conv => whnf); (first | (refine And.intro (by first | rfl | exact Nat.le_of_ble_eq_true rfl | decide | omega | (simp [h1, h2]; done) | (simp [h1, h2]; omega)) ?_) | (refine rec_t (by first | (simp [h1, h2]; done) | (simp [h1, h2]; omega) | omega) (fun _ => ?_)) | (refine rec_f (by first | (simp [h1, h2]; done) | (simp [h1, h2]; omega) | omega) (fun _ => ?_)) | (refine opt_i (gLen_str (by first | (simp [h1, h2]; done) | (simp [h1, h2]; omega) | omega)) ?_) | (refine opt_i (gDiv_pos (by first | (simp [h1, h2]; done) | (simp [h1, h2]; omega) | omega) (by first | (simp [h1, h2]; done) | (simp [h1, h2]; omega) | omega)) ?_) | (refine opt_i (gMd_pos (by first | (simp [h1, h2]; done) | (simp [h1, h2]; omega) | omega)) ?_)))); (conv => whnf)
  exact k
end
end K22
end
section
namespace K22
open PySem DL L2
abbrev Arr := List (Str × Int)
def elD (a : Str × Int) : D := .tup [.str a.1, .int a.2]
def arrD (as : Arr) : D := .tup (as.map elD)
structure ArrOk (as : Arr) : Prop where
  lo : 1 ≤ as.length
  hi : as.length ≤ 6
  names : ∀ a ∈ as, NameOk a.1
  sizes : ∀ a ∈ as, 1 ≤ a.2 ∧ a.2 ≤ 1000000000000000000
  asc : (as.map (·.1)).Pairwise fun a b => ltSt a b = true
/-- a program, by its parts -/
def progG (as : Arr) (lo ou wr : D) : D := .obj "Program" ["arrays", "loops", "outputs", "writers"] [arrD as, lo, ou, wr]
/-- an access that is in its array -/
structure AccOk (as : Arr) (nm : Str) (d : Int) : Prop where
  here : ∃ sz, (nm, sz) ∈ as ∧ 0 ≤ d ∧ d < sz
theorem nodup_of_asc {l : List Str} (h : l.Pairwise fun a b => ltSt a b = true) : l.Nodup := h.imp fun {a b} e z => by
  subst z
  rw [ltSt_irr] at e
  cases e
theorem ArrOk.nodup {as : Arr} (ok : ArrOk as) : (as.map (·.1)).Nodup := nodup_of_asc ok.asc
def tSz (nm : Str) : D → Bool
  | .tup [.str a, _] => a == nm
  | _ => false
def fSnd : D → D
  | .tup [_, s] => s
  | _ => .non
def fFst : D → D
  | .tup [a, _] => a
  | _ => .non
theorem names_map (as : Arr) : (as.map elD).map fFst = (as.map (·.1)).map D.str := by
  rw [List.map_map, List.map_map]
  rfl
theorem find_sz : ∀ {as : Arr} {nm : Str} {sz : Int}, (as.map (·.1)).Nodup → (nm, sz) ∈ as → ((as.map elD).filter (tSz nm)).map fSnd = [.int sz]
  | [], _, _, _, h => absurd h (by simp)
  | a :: as, nm, sz, nd, h => by
    rw [List.map_cons, List.nodup_cons] at nd
    have e0 : tSz nm (elD a) = (a.1 == nm) := rfl
    have none : ∀ {as : Arr}, nm ∉ as.map (·.1) → (as.map elD).filter (tSz nm) = [] := fun {as} hn => by
      rw [List.filter_eq_nil_iff]
      intro d hd
      obtain ⟨b, hb, rfl⟩ := List.mem_map.mp hd
      intro z
      have : b.1 = nm := by simpa [tSz, elD] using z
      exact hn (List.mem_map.mpr ⟨b, hb, this⟩)
    rw [List.map_cons]
    rcases List.mem_cons.mp h with e | h
    · subst e
      rw [List.filter_cons_of_pos (by rw [e0]; simp), none nd.1]
      rfl
    · have ne : ¬ a.1 = nm := fun z => nd.1 (by rw [z]; exact List.mem_map.mpr ⟨_, h, rfl⟩)
      rw [List.filter_cons_of_neg (by rw [e0]; simpa using ne)]
      exact find_sz nd.2 h
theorem gEq_of {a b : D} {x y : PyData} (h1 : toP a = some x) (h2 : toP b = some y) (s1 : SeqAt.shaped x = true) (s2 : SeqAt.shaped y = true) : gEq a b = some (.bl (PyData.eqv x y)) := by
  unfold gEq gEqB
  rw [h1, h2]
  show Option.map _ (if _ then _ else _) = _
  rw [if_pos ⟨s1, s2⟩]
  rfl
theorem gNe_of {a b : D} {x y : PyData} (h1 : toP a = some x) (h2 : toP b = some y) (s1 : SeqAt.shaped x = true) (s2 : SeqAt.shaped y = true) : gNe a b = some (.bl (!PyData.eqv x y)) := by
  unfold gNe gEqB
  rw [h1, h2]
  show Option.map _ (if _ then _ else _) = _
  rw [if_pos ⟨s1, s2⟩]
  rfl
theorem shaped_str {s : Str} (h : PyData.strOk s = true) : SeqAt.shaped (.str s) = true := by
  unfold SeqAt.shaped
  rw [show PyData.canLay0 (.str s) = PyData.strOk s from rfl, h]
  rfl
theorem gEq_str {a b : Str} (h1 : PyData.strOk a = true) (h2 : PyData.strOk b = true) : gEq (.str a) (.str b) = some (.bl (a == b)) := gEq_of rfl rfl (shaped_str h1) (shaped_str h2)
theorem gNe_str {a b : Str} (h1 : PyData.strOk a = true) (h2 : PyData.strOk b = true) : gNe (.str a) (.str b) = some (.bl (!(a == b))) := gNe_of rfl rfl (shaped_str h1) (shaped_str h2)
theorem NameOk.ok {s : Str} (h : NameOk s) : PyData.strOk s = true := by
  have key : ∀ c ∈ letters.cps.toList, c < 0x110000 := by decide +kernel
  unfold PyData.strOk
  rw [Array.all_eq_true_iff_forall_mem]
  intro c hc
  exact decide_eq_true (key c (h.all c (Array.mem_def.mp hc)))
section
variable {n : Nat} {q : D → Nat → Prop} {as : Arr} {nm nm2 : Str} {d e : Int} {lo ou wr : D}
theorem s_are_arrays (ok : ArrOk as) (k : q (.bl true) n) : w_are_arrays [arrD as, .int 6] n q := by
  have h1 := ok.lo
  have h2 := ok.hi
  unfold w_are_arrays arrD
  (try simp only [slots0, wipeS, backS, List.map_cons, List.map_nil, List.replicate, List.set_cons_zero, List.set_cons_succ, List.getElem?_cons_zero, List.getElem?_cons_succ, List.cons_append, List.nil_append]); (repeat ((conv => whnf); (first | (refine And.intro (by first | rfl | exact Nat.le_of_ble_eq_true rfl | decide | omega | (simp [h1, h2]; done) | (simp [h1, h2]; omega)) ?_) | (refine rec_t (by first | (simp [h1, h2]; done) | (simp [h1, h2]; omega) | omega) (fun _ => ?_)) | (refine rec_f (by first | (simp [h1, h2]; done) | (simp [h1, h2]; omega) | omega) (fun _ => ?_)) | (refine opt_i (gLen_str (by first | (simp [h1, h2]; done) | (simp [h1, h2]; omega) | omega)) ?_) | (refine opt_i (gDiv_pos (by first | (simp [h1, h2]; done) | (simp [h1, h2]; omega) | omega) (by first | (simp [h1, h2]; done) | (simp [h1, h2]; omega) | omega)) ?_) | (refine opt_i (gMd_pos (by first | (simp [h1, h2]; done) | (simp [h1, h2]; omega) | omega)) ?_)))); (conv => whnf)
  refine loop_inv (fun _ ρ m => m = n ∧ ∃ s, ρ = [.val (arrD as), .val (.int 6), s, .un, .un]) _ (fun i e ρ m he hI Z hZ => ?_) (fun ρ m hI => ?_) _ _ ⟨rfl, .un, rfl⟩
  · obtain ⟨rfl, s, rfl⟩ := hI
    obtain ⟨a, ha, rfl⟩ := List.mem_map.mp (List.mem_of_getElem? he)
    obtain ⟨z1, z2⟩ := ok.sizes a ha
    (try simp only [slots0, wipeS, backS, List.map_cons, List.map_nil, List.replicate, List.set_cons_zero, List.set_cons_succ, List.getElem?_cons_zero, List.getElem?_cons_succ, List.cons_append, List.nil_append]); (repeat ((conv => whnf); (first | (refine And.intro (by first | rfl | exact Nat.le_of_ble_eq_true rfl | decide | omega | (simp; done) | (simp; omega)) ?_) | (refine rec_t (by first | (simp; done) | (simp; omega) | omega) (fun _ => ?_)) | (refine rec_f (by first | (simp; done) | (simp; omega) | omega) (fun _ => ?_)) | (refine opt_i (gLen_str (by first | (simp; done) | (simp; omega) | omega)) ?_) | (refine opt_i (gDiv_pos (by first | (simp; done) | (simp; omega) | omega) (by first | (simp; done) | (simp; omega) | omega)) ?_) | (refine opt_i (gMd_pos (by first | (simp; done) | (simp; omega) | omega)) ?_)))); (conv => whnf)
    apply s_is_name (ok.names a ha)
    (try simp only [slots0, wipeS, backS, List.map_cons, List.map_nil, List.replicate, List.set_cons_zero, List.set_cons_succ, List.getElem?_cons_zero, List.getElem?_cons_succ, List.cons_append, List.nil_append]); (repeat ((conv => whnf); (first | (refine And.intro (by first | rfl | exact Nat.le_of_ble_eq_true rfl | decide | omega | (simp; done) | (simp; omega)) ?_) | (refine rec_t (by first | (simp; done) | (simp; omega) | omega) (fun _ => ?_)) | (refine rec_f (by first | (simp; done) | (simp; omega) | omega) (fun _ => ?_)) | (refine opt_i (gLen_str (by first | (simp; done) | (simp; omega) | omega)) ?_) | (refine opt_i (gDiv_pos (by first | (simp; done) | (simp; omega) | omega) (by first | (simp; done) | (simp; omega) | omega)) ?_) | (refine opt_i (gMd_pos (by first | (simp; done) | (simp; omega) | omega)) ?_)))); (conv => whnf)
    apply s_is_amount z1 z2
    (try simp only [slots0, wipeS, backS, List.map_cons, List.map_nil, List.replicate, List.set_cons_zero, List.set_cons_succ, List.getElem?_cons_zero, List.getElem?_cons_succ, List.cons_append, List.nil_append]); (repeat ((conv => whnf); (first | (refine And.intro (by first | rfl | exact Nat.le_of_ble_eq_true rfl | decide | omega | (simp; done) | (simp; omega)) ?_) | (refine rec_t (by first | (simp; done) | (simp; omega) | omega) (fun _ => ?_)) | (refine rec_f (by first | (simp; done) | (simp; omega) | omega) (fun _ => ?_)) | (refine opt_i (gLen_str (by first | (simp; done) | (simp; omega) | omega)) ?_) | (refine opt_i (gDiv_pos (by first | (simp; done) | (simp; omega) | omega) (by first | (simp; done) | (simp; omega) | omega)) ?_) | (refine opt_i (gMd_pos (by first | (simp; done) | (simp; omega) | omega)) ?_)))); (conv => whnf)
    exact hZ _ _ ⟨rfl, _, rfl⟩
  · obtain ⟨rfl, s, rfl⟩ := hI
    unfold arrD
    (try simp only [slots0, wipeS, backS, List.map_cons, List.map_nil, List.replicate, List.set_cons_zero, List.set_cons_succ, List.getElem?_cons_zero, List.getElem?_cons_succ, List.cons_append, List.nil_append]); (repeat ((conv => whnf); (first | (refine And.intro (by first | rfl | exact Nat.le_of_ble_eq_true rfl | decide | omega | (simp; done) | (simp; omega)) ?_) | (refine rec_t (by first | (simp; done) | (simp; omega) | omega) (fun _ => ?_)) | (refine rec_f (by first | (simp; done) | (simp; omega) | omega) (fun _ => ?_)) | (refine opt_i (gLen_str (by first | (simp; done) | (simp; omega) | omega)) ?_) | (refine opt_i (gDiv_pos (by first | (simp; done) | (simp; omega) | omega) (by first | (simp; done) | (simp; omega) | omega)) ?_) | (refine opt_i (gMd_pos (by first | (simp; done) | (simp; omega) | omega)) ?_)))); (conv => whnf)
    refine comp_map fFst _ _ (fun e he R hR => ?_) (by simp; omega) ?_
    · obtain ⟨a, ha, rfl⟩ := List.mem_map.mp he
      (try simp only [slots0, wipeS, backS, List.map_cons, List.map_nil, List.replicate, List.set_cons_zero, List.set_cons_succ, List.getElem?_cons_zero, List.getElem?_cons_succ, List.cons_append, List.nil_append]); (repeat ((conv => whnf); (first | (refine And.intro (by first | rfl | exact Nat.le_of_ble_eq_true rfl | decide | omega | (simp; done) | (simp; omega)) ?_) | (refine rec_t (by first | (simp; done) | (simp; omega) | omega) (fun _ => ?_)) | (refine rec_f (by first | (simp; done) | (simp; omega) | omega) (fun _ => ?_)) | (refine opt_i (gLen_str (by first | (simp; done) | (simp; omega) | omega)) ?_) | (refine opt_i (gDiv_pos (by first | (simp; done) | (simp; omega) | omega) (by first | (simp; done) | (simp; omega) | omega)) ?_) | (refine opt_i (gMd_pos (by first | (simp; done) | (simp; omega) | omega)) ?_)))); (conv => whnf)
      exact hR _ (by rfl) (by rfl)
    · (try simp only [slots0, wipeS, backS, List.map_cons, List.map_nil, List.replicate, List.set_cons_zero, List.set_cons_succ, List.getElem?_cons_zero, List.getElem?_cons_succ, List.cons_append, List.nil_append]); (repeat ((conv => whnf); (first | (refine And.intro (by first | rfl | exact Nat.le_of_ble_eq_true rfl | decide | omega | (simp; done) | (simp; omega)) ?_) | (refine rec_t (by first | (simp; done) | (simp; omega) | omega) (fun _ => ?_)) | (refine rec_f (by first | (simp; done) | (simp; omega) | omega) (fun _ => ?_)) | (refine opt_i (gLen_str (by first | (simp; done) | (simp; omega) | omega)) ?_) | (refine opt_i (gDiv_pos (by first | (simp; done) | (simp; omega) | omega) (by first | (simp; done) | (simp; omega) | omega)) ?_) | (refine opt_i (gMd_pos (by first | (simp; done) | (simp; omega) | omega)) ?_)))); (conv => whnf)
      rw [names_map]
      exact s_are_ascending (by simp; omega) ok.asc k
theorem s_size_of {nm' : Str} {sz : Int} (ok : ArrOk as) (h : (nm', sz) ∈ as) (k : q (.int sz) n) : w_Program_size_of [progG as lo ou wr, .str nm'] n q := by
  have nd := ok.nodup
  have hl := ok.hi
  have hn := ok.names
  unfold w_Program_size_of progG arrD
  (try simp only [slots0, wipeS, backS, List.map_cons, List.map_nil, List.replicate, List.set_cons_zero, List.set_cons_succ, List.getElem?_cons_zero, List.getElem?_cons_succ, List.cons_append, List.nil_append]); (repeat ((conv => whnf); (first | (refine And.intro (by first | rfl | exact Nat.le_of_ble_eq_true rfl | decide | omega | (simp; done) | (simp; omega)) ?_) | (refine rec_t (by first | (simp; done) | (simp; omega) | omega) (fun _ => ?_)) | (refine rec_f (by first | (simp; done) | (simp; omega) | omega) (fun _ => ?_)) | (refine opt_i (gLen_str (by first | (simp; done) | (simp; omega) | omega)) ?_) | (refine opt_i (gDiv_pos (by first | (simp; done) | (simp; omega) | omega) (by first | (simp; done) | (simp; omega) | omega)) ?_) | (refine opt_i (gMd_pos (by first | (simp; done) | (simp; omega) | omega)) ?_)))); (conv => whnf)
  refine comp_filter (tSz nm') fSnd _ _ (fun e he R Z hR hZ => ?_) (by simp; omega) ?_
  · obtain ⟨a, ha, rfl⟩ := List.mem_map.mp he
    (try simp only [slots0, wipeS, backS, List.map_cons, List.map_nil, List.replicate, List.set_cons_zero, List.set_cons_succ, List.getElem?_cons_zero, List.getElem?_cons_succ, List.cons_append, List.nil_append]); (repeat ((conv => whnf); (first | (refine And.intro (by first | rfl | exact Nat.le_of_ble_eq_true rfl | decide | omega | (simp; done) | (simp; omega)) ?_) | (refine rec_t (by first | (simp; done) | (simp; omega) | omega) (fun _ => ?_)) | (refine rec_f (by first | (simp; done) | (simp; omega) | omega) (fun _ => ?_)) | (refine opt_i (gLen_str (by first | (simp; done) | (simp; omega) | omega)) ?_) | (refine opt_i (gDiv_pos (by first | (simp; done) | (simp; omega) | omega) (by first | (simp; done) | (simp; omega) | omega)) ?_) | (refine opt_i (gMd_pos (by first | (simp; done) | (simp; omega) | omega)) ?_)))); (conv => whnf)
    refine opt_i (gEq_str (hn a ha).ok (hn _ h).ok) ?_
    (try simp only [slots0, wipeS, backS, List.map_cons, List.map_nil, List.replicate, List.set_cons_zero, List.set_cons_succ, List.getElem?_cons_zero, List.getElem?_cons_succ, List.cons_append, List.nil_append]); (repeat ((conv => whnf); (first | (refine And.intro (by first | rfl | exact Nat.le_of_ble_eq_true rfl | decide | omega | (simp; done) | (simp; omega)) ?_) | (refine rec_t (by first | (simp; done) | (simp; omega) | omega) (fun _ => ?_)) | (refine rec_f (by first | (simp; done) | (simp; omega) | omega) (fun _ => ?_)) | (refine opt_i (gLen_str (by first | (simp; done) | (simp; omega) | omega)) ?_) | (refine opt_i (gDiv_pos (by first | (simp; done) | (simp; omega) | omega) (by first | (simp; done) | (simp; omega) | omega)) ?_) | (refine opt_i (gMd_pos (by first | (simp; done) | (simp; omega) | omega)) ?_)))); (conv => whnf)
    by_cases c : a.1 = nm'
    · refine rec_t (by simpa using c) fun _ => ?_
      (try simp only [slots0, wipeS, backS, List.map_cons, List.map_nil, List.replicate, List.set_cons_zero, List.set_cons_succ, List.getElem?_cons_zero, List.getElem?_cons_succ, List.cons_append, List.nil_append]); (repeat ((conv => whnf); (first | (refine And.intro (by first | rfl | exact Nat.le_of_ble_eq_true rfl | decide | omega | (simp; done) | (simp; omega)) ?_) | (refine rec_t (by first | (simp; done) | (simp; omega) | omega) (fun _ => ?_)) | (refine rec_f (by first | (simp; done) | (simp; omega) | omega) (fun _ => ?_)) | (refine opt_i (gLen_str (by first | (simp; done) | (simp; omega) | omega)) ?_) | (refine opt_i (gDiv_pos (by first | (simp; done) | (simp; omega) | omega) (by first | (simp; done) | (simp; omega) | omega)) ?_) | (refine opt_i (gMd_pos (by first | (simp; done) | (simp; omega) | omega)) ?_)))); (conv => whnf)
      exact hR (by simpa [tSz, elD] using c) _ (by rfl) (by rfl)
    · refine rec_f (by simpa using c) fun _ => ?_
      (try simp only [slots0, wipeS, backS, List.map_cons, List.map_nil, List.replicate, List.set_cons_zero, List.set_cons_succ, List.getElem?_cons_zero, List.getElem?_cons_succ, List.cons_append, List.nil_append]); (repeat ((conv => whnf); (first | (refine And.intro (by first | rfl | exact Nat.le_of_ble_eq_true rfl | decide | omega | (simp; done) | (simp; omega)) ?_) | (refine rec_t (by first | (simp; done) | (simp; omega) | omega) (fun _ => ?_)) | (refine rec_f (by first | (simp; done) | (simp; omega) | omega) (fun _ => ?_)) | (refine opt_i (gLen_str (by first | (simp; done) | (simp; omega) | omega)) ?_) | (refine opt_i (gDiv_pos (by first | (simp; done) | (simp; omega) | omega) (by first | (simp; done) | (simp; omega) | omega)) ?_) | (refine opt_i (gMd_pos (by first | (simp; done) | (simp; omega) | omega)) ?_)))); (conv => whnf)
      exact hZ (by simpa [tSz, elD] using c) _ (by rfl) (by rfl)
  · rw [List.nil_append, find_sz nd h]
    (try simp only [slots0, wipeS, backS, List.map_cons, List.map_nil, List.replicate, List.set_cons_zero, List.set_cons_succ, List.getElem?_cons_zero, List.getElem?_cons_succ, List.cons_append, List.nil_append]); (repeat ((conv => whnf); (first | (refine And.intro (by first | rfl | exact Nat.le_of_ble_eq_true rfl | decide | omega | (simp; done) | (simp; omega)) ?_) | (refine rec_t (by first | (simp; done) | (simp; omega) | omega) (fun _ => ?_)) | (refine rec_f (by first | (simp; done) | (simp; omega) | omega) (fun _ => ?_)) | (refine opt_i (gLen_str (by first | (simp; done) | (simp; omega) | omega)) ?_) | (refine opt_i (gDiv_pos (by first | (simp; done) | (simp; omega) | omega) (by first | (simp; done) | (simp; omega) | omega)) ?_) | (refine opt_i (gMd_pos (by first | (simp; done) | (simp; omega) | omega)) ?_)))); (conv => whnf)
    exact k
theorem s_contains {nm' : Str} (h : nm' ∈ as.map (·.1)) (hl : as.length ≤ 6) (k : q (.bl true) n) : w_Program___contains__ [progG as lo ou wr, .str nm'] n q := by
  unfold w_Program___contains__ progG arrD
  (try simp only [slots0, wipeS, backS, List.map_cons, List.map_nil, List.replicate, List.set_cons_zero, List.set_cons_succ, List.getElem?_cons_zero, List.getElem?_cons_succ, List.cons_append, List.nil_append]); (repeat ((conv => whnf); (first | (refine And.intro (by first | rfl | exact Nat.le_of_ble_eq_true rfl | decide | omega | (simp; done) | (simp; omega)) ?_) | (refine rec_t (by first | (simp; done) | (simp; omega) | omega) (fun _ => ?_)) | (refine rec_f (by first | (simp; done) | (simp; omega) | omega) (fun _ => ?_)) | (refine opt_i (gLen_str (by first | (simp; done) | (simp; omega) | omega)) ?_) | (refine opt_i (gDiv_pos (by first | (simp; done) | (simp; omega) | omega) (by first | (simp; done) | (simp; omega) | omega)) ?_) | (refine opt_i (gMd_pos (by first | (simp; done) | (simp; omega) | omega)) ?_)))); (conv => whnf)
  refine comp_map fFst _ _ (fun e he R hR => ?_) (by simp; omega) ?_
  · obtain ⟨a, ha, rfl⟩ := List.mem_map.mp he
    (try simp only [slots0, wipeS, backS, List.map_cons, List.map_nil, List.replicate, List.set_cons_zero, List.set_cons_succ, List.getElem?_cons_zero, List.getElem?_cons_succ, List.cons_append, List.nil_append]); (repeat ((conv => whnf); (first | (refine And.intro (by first | rfl | exact Nat.le_of_ble_eq_true rfl | decide | omega | (simp; done) | (simp; omega)) ?_) | (refine rec_t (by first | (simp; done) | (simp; omega) | omega) (fun _ => ?_)) | (refine rec_f (by first | (simp; done) | (simp; omega) | omega) (fun _ => ?_)) | (refine opt_i (gLen_str (by first | (simp; done) | (simp; omega) | omega)) ?_) | (refine opt_i (gDiv_pos (by first | (simp; done) | (simp; omega) | omega) (by first | (simp; done) | (simp; omega) | omega)) ?_) | (refine opt_i (gMd_pos (by first | (simp; done) | (simp; omega) | omega)) ?_)))); (conv => whnf)
    exact hR _ (by rfl) (by rfl)
  · (try simp only [slots0, wipeS, backS, List.map_cons, List.map_nil, List.replicate, List.set_cons_zero, List.set_cons_succ, List.getElem?_cons_zero, List.getElem?_cons_succ, List.cons_append, List.nil_append]); (repeat ((conv => whnf); (first | (refine And.intro (by first | rfl | exact Nat.le_of_ble_eq_true rfl | decide | omega | (simp; done) | (simp; omega)) ?_) | (refine rec_t (by first | (simp; done) | (simp; omega) | omega) (fun _ => ?_)) | (refine rec_f (by first | (simp; done) | (simp; omega) | omega) (fun _ => ?_)) | (refine opt_i (gLen_str (by first | (simp; done) | (simp; omega) | omega)) ?_) | (refine opt_i (gDiv_pos (by first | (simp; done) | (simp; omega) | omega) (by first | (simp; done) | (simp; omega) | omega)) ?_) | (refine opt_i (gMd_pos (by first | (simp; done) | (simp; omega) | omega)) ?_)))); (conv => whnf)
    (try rw [List.nil_append])
    rw [names_map]
    refine opt_i (gIn_str h false) ?_
    exact k
theorem AccOk.nameOk (ok : ArrOk as) (h : AccOk as nm d) : NameOk nm := by
  obtain ⟨sz, h, _⟩ := h.here
  exact ok.names _ h
theorem AccOk.mem (h : AccOk as nm d) : nm ∈ as.map (·.1) := by
  obtain ⟨sz, h, _⟩ := h.here
  exact List.mem_map.mpr ⟨_, h, rfl⟩
theorem AccOk.lt (ok : ArrOk as) (h : AccOk as nm d) : 0 ≤ d ∧ d < 1000000000000000000 := by
  obtain ⟨sz, h, h1, h2⟩ := h.here
  have := (ok.sizes _ h).2
  simp at this
  omega
/-- the making of a program, from what its parts say -/
theorem s_ProgramG (ok : ArrOk as) (h1 : ∀ {q : D → Nat → Prop} {n : Nat}, q (.bl true) n → w_are_loops [lo, .lst ((as.map (·.1)).map .str)] n q) (h2 : ∀ {q : D → Nat → Prop} {n : Nat}, q (.bl true) n → w_are_outputs [ou, .lst ((as.map (·.1)).map .str)] n q)
    (h3 : ∀ {q : D → Nat → Prop} {n : Nat}, q wr n → w_all_writers [lo] n q) (h4 : ∀ {q : D → Nat → Prop} {n : Nat}, q .non n → w_check_bounds [progG as lo ou wr] n q) (h5 : ∀ {q : D → Nat → Prop} {n : Nat}, q .non n → w_check_writes [progG as lo ou wr] n q)
    (h6 : ∀ {q : D → Nat → Prop} {n : Nat}, q .non n → w_check_uses [progG as lo ou wr] n q) (k : q (progG as lo ou wr) n) : wI_Program___init__ [arrD as, lo, ou] n q := by
  have hl := ok.hi
  unfold wI_Program___init__
  (try simp only [slots0, wipeS, backS, List.map_cons, List.map_nil, List.replicate, List.set_cons_zero, List.set_cons_succ, List.getElem?_cons_zero, List.getElem?_cons_succ, List.cons_append, List.nil_append]); (repeat ((conv => whnf); (first | (refine And.intro (by first | rfl | exact Nat.le_of_ble_eq_true rfl | decide | omega | (simp; done) | (simp; omega)) ?_) | (refine rec_t (by first | (simp; done) | (simp; omega) | omega) (fun _ => ?_)) | (refine rec_f (by first | (simp; done) | (simp; omega) | omega) (fun _ => ?_)) | (refine opt_i (gLen_str (by first | (simp; done) | (simp; omega) | omega)) ?_) | (refine opt_i (gDiv_pos (by first | (simp; done) | (simp; omega) | omega) (by first | (simp; done) | (simp; omega) | omega)) ?_) | (refine opt_i (gMd_pos (by first | (simp; done) | (simp; omega) | omega)) ?_)))); (conv => whnf)
  apply s_are_arrays ok
  (try simp only [slots0, wipeS, backS, List.map_cons, List.map_nil, List.replicate, List.set_cons_zero, List.set_cons_succ, List.getElem?_cons_zero, List.getElem?_cons_succ, List.cons_append, List.nil_append]); (repeat ((conv => whnf); (first | (refine And.intro (by first | rfl | exact Nat.le_of_ble_eq_true rfl | decide | omega | (simp; done) | (simp; omega)) ?_) | (refine rec_t (by first | (simp; done) | (simp; omega) | omega) (fun _ => ?_)) | (refine rec_f (by first | (simp; done) | (simp; omega) | omega) (fun _ => ?_)) | (refine opt_i (gLen_str (by first | (simp; done) | (simp; omega) | omega)) ?_) | (refine opt_i (gDiv_pos (by first | (simp; done) | (simp; omega) | omega) (by first | (simp; done) | (simp; omega) | omega)) ?_) | (refine opt_i (gMd_pos (by first | (simp; done) | (simp; omega) | omega)) ?_)))); (conv => whnf)
  refine comp_map fFst _ _ (fun e he R hR => ?_) (by simp; omega) ?_
  · obtain ⟨a, ha, rfl⟩ := List.mem_map.mp he
    (try simp only [slots0, wipeS, backS, List.map_cons, List.map_nil, List.replicate, List.set_cons_zero, List.set_cons_succ, List.getElem?_cons_zero, List.getElem?_cons_succ, List.cons_append, List.nil_append]); (repeat ((conv => whnf); (first | (refine And.intro (by first | rfl | exact Nat.le_of_ble_eq_true rfl | decide | omega | (simp; done) | (simp; omega)) ?_) | (refine rec_t (by first | (simp; done) | (simp; omega) | omega) (fun _ => ?_)) | (refine rec_f (by first | (simp; done) | (simp; omega) | omega) (fun _ => ?_)) | (refine opt_i (gLen_str (by first | (simp; done) | (simp; omega) | omega)) ?_) | (refine opt_i (gDiv_pos (by first | (simp; done) | (simp; omega) | omega) (by first | (simp; done) | (simp; omega) | omega)) ?_) | (refine opt_i (gMd_pos (by first | (simp; done) | (simp; omega) | omega)) ?_)))); (conv => whnf)
    exact hR _ (by rfl) (by rfl)
  · rw [List.nil_append, names_map]
    (try simp only [slots0, wipeS, backS, List.map_cons, List.map_nil, List.replicate, List.set_cons_zero, List.set_cons_succ, List.getElem?_cons_zero, List.getElem?_cons_succ, List.cons_append, List.nil_append]); (repeat ((conv => whnf); (first | (refine And.intro (by first | rfl | exact Nat.le_of_ble_eq_true rfl | decide | omega | (simp; done) | (simp; omega)) ?_) | (refine rec_t (by first | (simp; done) | (simp; omega) | omega) (fun _ => ?_)) | (refine rec_f (by first | (simp; done) | (simp; omega) | omega) (fun _ => ?_)) | (refine opt_i (gLen_str (by first | (simp; done) | (simp; omega) | omega)) ?_) | (refine opt_i (gDiv_pos (by first | (simp; done) | (simp; omega) | omega) (by first | (simp; done) | (simp; omega) | omega)) ?_) | (refine opt_i (gMd_pos (by first | (simp; done) | (simp; omega) | omega)) ?_)))); (conv => whnf)
    apply h1
    (try simp only [slots0, wipeS, backS, List.map_cons, List.map_nil, List.replicate, List.set_cons_zero, List.set_cons_succ, List.getElem?_cons_zero, List.getElem?_cons_succ, List.cons_append, List.nil_append]); (repeat ((conv => whnf); (first | (refine And.intro (by first | rfl | exact Nat.le_of_ble_eq_true rfl | decide | omega | (simp; done) | (simp; omega)) ?_) | (refine rec_t (by first | (simp; done) | (simp; omega) | omega) (fun _ => ?_)) | (refine rec_f (by first | (simp; done) | (simp; omega) | omega) (fun _ => ?_)) | (refine opt_i (gLen_str (by first | (simp; done) | (simp; omega) | omega)) ?_) | (refine opt_i (gDiv_pos (by first | (simp; done) | (simp; omega) | omega) (by first | (simp; done) | (simp; omega) | omega)) ?_) | (refine opt_i (gMd_pos (by first | (simp; done) | (simp; omega) | omega)) ?_)))); (conv => whnf)
    apply h2
    (try simp only [slots0, wipeS, backS, List.map_cons, List.map_nil, List.replicate, List.set_cons_zero, List.set_cons_succ, List.getElem?_cons_zero, List.getElem?_cons_succ, List.cons_append, List.nil_append]); (repeat ((conv => whnf); (first | (refine And.intro (by first | rfl | exact Nat.le_of_ble_eq_true rfl | decide | omega | (simp; done) | (simp; omega)) ?_) | (refine rec_t (by first | (simp; done) | (simp; omega) | omega) (fun _ => ?_)) | (refine rec_f (by first | (simp; done) | (simp; omega) | omega) (fun _ => ?_)) | (refine opt_i (gLen_str (by first | (simp; done) | (simp; omega) | omega)) ?_) | (refine opt_i (gDiv_pos (by first | (simp; done) | (simp; omega) | omega) (by first | (simp; done) | (simp; omega) | omega)) ?_) | (refine opt_i (gMd_pos (by first | (simp; done) | (simp; omega) | omega)) ?_)))); (conv => whnf)
    apply h3
    (try simp only [slots0, wipeS, backS, List.map_cons, List.map_nil, List.replicate, List.set_cons_zero, List.set_cons_succ, List.getElem?_cons_zero, List.getElem?_cons_succ, List.cons_append, List.nil_append]); (repeat ((conv => whnf); (first | (refine And.intro (by first | rfl | exact Nat.le_of_ble_eq_true rfl | decide | omega | (simp; done) | (simp; omega)) ?_) | (refine rec_t (by first | (simp; done) | (simp; omega) | omega) (fun _ => ?_)) | (refine rec_f (by first | (simp; done) | (simp; omega) | omega) (fun _ => ?_)) | (refine opt_i (gLen_str (by first | (simp; done) | (simp; omega) | omega)) ?_) | (refine opt_i (gDiv_pos (by first | (simp; done) | (simp; omega) | omega) (by first | (simp; done) | (simp; omega) | omega)) ?_) | (refine opt_i (gMd_pos (by first | (simp; done) | (simp; omega) | omega)) ?_)))); (conv => whnf)
    apply h4
    (try simp only [slots0, wipeS, backS, List.map_cons, List.map_nil, List.replicate, List.set_cons_zero, List.set_cons_succ, List.getElem?_cons_zero, List.getElem?_cons_succ, List.cons_append, List.nil_append]); (repeat ((conv => whnf); (first | (refine And.intro (by first | rfl | exact Nat.le_of_ble_eq_true rfl | decide | omega | (simp; done) | (simp; omega)) ?_) | (refine rec_t (by first | (simp; done) | (simp; omega) | omega) (fun _ => ?_)) | (refine rec_f (by first | (simp; done) | (simp; omega) | omega) (fun _ => ?_)) | (refine opt_i (gLen_str (by first | (simp; done) | (simp; omega) | omega)) ?_) | (refine opt_i (gDiv_pos (by first | (simp; done) | (simp; omega) | omega) (by first | (simp; done) | (simp; omega) | omega)) ?_) | (refine opt_i (gMd_pos (by first | (simp; done) | (simp; omega) | omega)) ?_)))); (conv => whnf)
    apply h5
    (try simp only [slots0, wipeS, backS, List.map_cons, List.map_nil, List.replicate, List.set_cons_zero, List.set_cons_succ, List.getElem?_cons_zero, List.getElem?_cons_succ, List.cons_append, List.nil_append]); (repeat ((conv => whnf); (first | (refine And.intro (by first | rfl | exact Nat.le_of_ble_eq_true rfl | decide | omega | (simp; done) | (simp; omega)) ?_) | (refine rec_t (by first | (simp; done) | (simp; omega) | omega) (fun _ => ?_)) | (refine rec_f (by first | (simp; done) | (simp; omega) | omega) (fun _ => ?_)) | (refine opt_i (gLen_str (by first | (simp; done) | (simp; omega) | omega)) ?_) | (refine opt_i (gDiv_pos (by first | (simp; done) | (simp; omega) | omega) (by first | (simp; done) | (simp; omega) | omega)) ?_) | (refine opt_i (gMd_pos (by first | (simp; done) | (simp; omega) | omega)) ?_)))); (conv => whnf)
    apply h6
    (try simp only [slots0, wipeS, backS, List.map_cons, List.map_nil, List.replicate, List.set_cons_zero, List.set_cons_succ, List.getElem?_cons_zero, List.getElem?_cons_succ, List.cons_append, List.nil_append]); (repeat ((conv => whnf); (first | (refine And.intro (by first | rfl | exact Nat.le_of_ble_eq_true rfl | decide | omega | (simp; done) | (simp; omega)) ?_) | (refine rec_t (by first | (simp; done) | (simp; omega) | omega) (fun _ => ?_)) | (refine rec_f (by first | (simp; done) | (simp; omega) | omega) (fun _ => ?_)) | (refine opt_i (gLen_str (by first | (simp; done) | (simp; omega) | omega)) ?_) | (refine opt_i (gDiv_pos (by first | (simp; done) | (simp; omega) | omega) (by first | (simp; done) | (simp; omega) | omega)) ?_) | (refine opt_i (gMd_pos (by first | (simp; done) | (simp; omega) | omega)) ?_)))); (conv => whnf)
    exact ⟨_, .inl rfl, k⟩
theorem s_bounds1 (ok : ArrOk as) (a : AccOk as nm d) (k : q .non n) : w_check_bounds [progG as (loopsD nm d) ou (writersD nm d)] n q := by
  obtain ⟨sz, hm, h1, h2⟩ := a.here
  unfold w_check_bounds
  (try simp only [slots0, wipeS, backS, List.map_cons, List.map_nil, List.replicate, List.set_cons_zero, List.set_cons_succ, List.getElem?_cons_zero, List.getElem?_cons_succ, List.cons_append, List.nil_append]); (repeat ((conv => whnf); (first | (refine And.intro (by first | rfl | exact Nat.le_of_ble_eq_true rfl | decide | omega | (simp; done) | (simp; omega)) ?_) | (refine rec_t (by first | (simp; done) | (simp; omega) | omega) (fun _ => ?_)) | (refine rec_f (by first | (simp; done) | (simp; omega) | omega) (fun _ => ?_)) | (refine opt_i (gLen_str (by first | (simp; done) | (simp; omega) | omega)) ?_) | (refine opt_i (gDiv_pos (by first | (simp; done) | (simp; omega) | omega) (by first | (simp; done) | (simp; omega) | omega)) ?_) | (refine opt_i (gMd_pos (by first | (simp; done) | (simp; omega) | omega)) ?_)))); (conv => whnf)
  apply s_all_reads
  (try simp only [slots0, wipeS, backS, List.map_cons, List.map_nil, List.replicate, List.set_cons_zero, List.set_cons_succ, List.getElem?_cons_zero, List.getElem?_cons_succ, List.cons_append, List.nil_append]); (repeat ((conv => whnf); (first | (refine And.intro (by first | rfl | exact Nat.le_of_ble_eq_true rfl | decide | omega | (simp; done) | (simp; omega)) ?_) | (refine rec_t (by first | (simp; done) | (simp; omega) | omega) (fun _ => ?_)) | (refine rec_f (by first | (simp; done) | (simp; omega) | omega) (fun _ => ?_)) | (refine opt_i (gLen_str (by first | (simp; done) | (simp; omega) | omega)) ?_) | (refine opt_i (gDiv_pos (by first | (simp; done) | (simp; omega) | omega) (by first | (simp; done) | (simp; omega) | omega)) ?_) | (refine opt_i (gMd_pos (by first | (simp; done) | (simp; omega) | omega)) ?_)))); (conv => whnf)
  apply s_size_of ok hm
  (try simp only [slots0, wipeS, backS, List.map_cons, List.map_nil, List.replicate, List.set_cons_zero, List.set_cons_succ, List.getElem?_cons_zero, List.getElem?_cons_succ, List.cons_append, List.nil_append]); (repeat ((conv => whnf); (first | (refine And.intro (by first | rfl | exact Nat.le_of_ble_eq_true rfl | decide | omega | (simp; done) | (simp; omega)) ?_) | (refine rec_t (by first | (simp; done) | (simp; omega) | omega) (fun _ => ?_)) | (refine rec_f (by first | (simp; done) | (simp; omega) | omega) (fun _ => ?_)) | (refine opt_i (gLen_str (by first | (simp; done) | (simp; omega) | omega)) ?_) | (refine opt_i (gDiv_pos (by first | (simp; done) | (simp; omega) | omega) (by first | (simp; done) | (simp; omega) | omega)) ?_) | (refine opt_i (gMd_pos (by first | (simp; done) | (simp; omega) | omega)) ?_)))); (conv => whnf)
  apply s_first_out h1 h2
  (try simp only [slots0, wipeS, backS, List.map_cons, List.map_nil, List.replicate, List.set_cons_zero, List.set_cons_succ, List.getElem?_cons_zero, List.getElem?_cons_succ, List.cons_append, List.nil_append]); (repeat ((conv => whnf); (first | (refine And.intro (by first | rfl | exact Nat.le_of_ble_eq_true rfl | decide | omega | (simp; done) | (simp; omega)) ?_) | (refine rec_t (by first | (simp; done) | (simp; omega) | omega) (fun _ => ?_)) | (refine rec_f (by first | (simp; done) | (simp; omega) | omega) (fun _ => ?_)) | (refine opt_i (gLen_str (by first | (simp; done) | (simp; omega) | omega)) ?_) | (refine opt_i (gDiv_pos (by first | (simp; done) | (simp; omega) | omega) (by first | (simp; done) | (simp; omega) | omega)) ?_) | (refine opt_i (gMd_pos (by first | (simp; done) | (simp; omega) | omega)) ?_)))); (conv => whnf)
  exact k
theorem s_writes1 (ok : ArrOk as) (a : AccOk as nm d) (k : q .non n) : w_check_writes [progG as lo ou (writersD nm d)] n q := by
  unfold w_check_writes
  (try simp only [slots0, wipeS, backS, List.map_cons, List.map_nil, List.replicate, List.set_cons_zero, List.set_cons_succ, List.getElem?_cons_zero, List.getElem?_cons_succ, List.cons_append, List.nil_append]); (repeat ((conv => whnf); (first | (refine And.intro (by first | rfl | exact Nat.le_of_ble_eq_true rfl | decide | omega | (simp; done) | (simp; omega)) ?_) | (refine rec_t (by first | (simp; done) | (simp; omega) | omega) (fun _ => ?_)) | (refine rec_f (by first | (simp; done) | (simp; omega) | omega) (fun _ => ?_)) | (refine opt_i (gLen_str (by first | (simp; done) | (simp; omega) | omega)) ?_) | (refine opt_i (gDiv_pos (by first | (simp; done) | (simp; omega) | omega) (by first | (simp; done) | (simp; omega) | omega)) ?_) | (refine opt_i (gMd_pos (by first | (simp; done) | (simp; omega) | omega)) ?_)))); (conv => whnf)
  refine opt_i (gNe_str (a.nameOk ok).ok (a.nameOk ok).ok) ?_
  (try simp only [slots0, wipeS, backS, List.map_cons, List.map_nil, List.replicate, List.set_cons_zero, List.set_cons_succ, List.getElem?_cons_zero, List.getElem?_cons_succ, List.cons_append, List.nil_append]); (repeat ((conv => whnf); (first | (refine And.intro (by first | rfl | exact Nat.le_of_ble_eq_true rfl | decide | omega | (simp; done) | (simp; omega)) ?_) | (refine rec_t (by first | (simp; done) | (simp; omega) | omega) (fun _ => ?_)) | (refine rec_f (by first | (simp; done) | (simp; omega) | omega) (fun _ => ?_)) | (refine opt_i (gLen_str (by first | (simp; done) | (simp; omega) | omega)) ?_) | (refine opt_i (gDiv_pos (by first | (simp; done) | (simp; omega) | omega) (by first | (simp; done) | (simp; omega) | omega)) ?_) | (refine opt_i (gMd_pos (by first | (simp; done) | (simp; omega) | omega)) ?_)))); (conv => whnf)
  exact k
theorem s_uses1 (k : q .non n) : w_check_uses [progG as (loopsD nm d) (.tup []) wr] n q := by
  unfold w_check_uses
  (try simp only [slots0, wipeS, backS, List.map_cons, List.map_nil, List.replicate, List.set_cons_zero, List.set_cons_succ, List.getElem?_cons_zero, List.getElem?_cons_succ, List.cons_append, List.nil_append]); (repeat ((conv => whnf); (first | (refine And.intro (by first | rfl | exact Nat.le_of_ble_eq_true rfl | decide | omega | (simp; done) | (simp; omega)) ?_) | (refine rec_t (by first | (simp; done) | (simp; omega) | omega) (fun _ => ?_)) | (refine rec_f (by first | (simp; done) | (simp; omega) | omega) (fun _ => ?_)) | (refine opt_i (gLen_str (by first | (simp; done) | (simp; omega) | omega)) ?_) | (refine opt_i (gDiv_pos (by first | (simp; done) | (simp; omega) | omega) (by first | (simp; done) | (simp; omega) | omega)) ?_) | (refine opt_i (gMd_pos (by first | (simp; done) | (simp; omega) | omega)) ?_)))); (conv => whnf)
  apply s_all_reads
  (try simp only [slots0, wipeS, backS, List.map_cons, List.map_nil, List.replicate, List.set_cons_zero, List.set_cons_succ, List.getElem?_cons_zero, List.getElem?_cons_succ, List.cons_append, List.nil_append]); (repeat ((conv => whnf); (first | (refine And.intro (by first | rfl | exact Nat.le_of_ble_eq_true rfl | decide | omega | (simp; done) | (simp; omega)) ?_) | (refine rec_t (by first | (simp; done) | (simp; omega) | omega) (fun _ => ?_)) | (refine rec_f (by first | (simp; done) | (simp; omega) | omega) (fun _ => ?_)) | (refine opt_i (gLen_str (by first | (simp; done) | (simp; omega) | omega)) ?_) | (refine opt_i (gDiv_pos (by first | (simp; done) | (simp; omega) | omega) (by first | (simp; done) | (simp; omega) | omega)) ?_) | (refine opt_i (gMd_pos (by first | (simp; done) | (simp; omega) | omega)) ?_)))); (conv => whnf)
  exact k
theorem s_Program1 (ok : ArrOk as) (a : AccOk as nm d) (k : q (progG as (loopsD nm d) (.tup []) (writersD nm d)) n) : wI_Program___init__ [arrD as, loopsD nm d, .tup []] n q :=
  s_ProgramG ok (fun h => s_are_loops a.mem (a.lt ok).1 (by have := (a.lt ok).2; omega) h) s_are_outputs s_all_writers (s_bounds1 ok a) (s_writes1 ok a) s_uses1 k
end
end K22
end
section
namespace K22
open PySem DL L2
inductive Lay where
  | up | down | ring (k : Int)
def layD : Lay → D
  | .up => .str "up"
  | .down => .str "down"
  | .ring k => .tup [.str "ring", .int k]
def LayOk : Lay → Prop
  | .up => True
  | .down => True
  | .ring k => 1 ≤ k ∧ k ≤ 8
def low : Lay → Int → Int
  | .up, _ => 0
  | .down, s => 1 - s
  | .ring _, _ => 0
def high : Lay → Int → Int
  | .up, s => s - 1
  | .down, _ => 0
  | .ring k, s => (if s < k then s else k) - 1
def offs : Lay → Int → Int
  | .up, i => i
  | .down, i => -i
  | .ring k, i => i % k
theorem okU : PyData.strOk "up" = true := by decide +kernel
theorem okD : PyData.strOk "down" = true := by decide +kernel
theorem okR : PyData.strOk "ring" = true := by decide +kernel
theorem neDU : (("down" : Str) == "up") = false := by decide +kernel
theorem neUD : (("up" : Str) == "down") = false := by decide +kernel
theorem shaped_ring {k : Int} : SeqAt.shaped (.tuple [.str "ring", .int k]) = true := by
  unfold SeqAt.shaped
  rw [show PyData.canLay0 (.tuple [.str "ring", .int k]) = (PyData.strOk "ring" && (true && true)) from rfl, okR]
  rfl
theorem gEq_ring {k : Int} {s : Str} (h : PyData.strOk s = true) : gEq (.tup [.str "ring", .int k]) (.str s) = some (.bl false) := gEq_of rfl rfl shaped_ring (shaped_str h)
abbrev Row := Str × Int × Lay
def rowD (r : Row) : D := .tup [.str r.1, .int r.2.1, layD r.2.2]
section
variable {n : Nat} {q : D → Nat → Prop} {as : Arr} {lo ou wr : D}
theorem s_is_layout {l : Lay} (ok : LayOk l) (k : q (.bl true) n) : w_is_layout [layD l] n q := by
  unfold w_is_layout
  cases l with
  | up =>
    unfold layD
    (try simp only [slots0, wipeS, backS, List.map_cons, List.map_nil, List.replicate, List.set_cons_zero, List.set_cons_succ, List.getElem?_cons_zero, List.getElem?_cons_succ, List.cons_append, List.nil_append]); (repeat ((conv => whnf); (first | (refine And.intro (by first | rfl | exact Nat.le_of_ble_eq_true rfl | decide | omega | (simp; done) | (simp; omega)) ?_) | (refine rec_t (by first | (simp; done) | (simp; omega) | omega) (fun _ => ?_)) | (refine rec_f (by first | (simp; done) | (simp; omega) | omega) (fun _ => ?_)) | (refine opt_i (gLen_str (by first | (simp; done) | (simp; omega) | omega)) ?_) | (refine opt_i (gDiv_pos (by first | (simp; done) | (simp; omega) | omega) (by first | (simp; done) | (simp; omega) | omega)) ?_) | (refine opt_i (gMd_pos (by first | (simp; done) | (simp; omega) | omega)) ?_)))); (conv => whnf)
    exact val2 (d' := .bl true) (by simp [eqD]) k
  | down =>
    unfold layD
    (try simp only [slots0, wipeS, backS, List.map_cons, List.map_nil, List.replicate, List.set_cons_zero, List.set_cons_succ, List.getElem?_cons_zero, List.getElem?_cons_succ, List.cons_append, List.nil_append]); (repeat ((conv => whnf); (first | (refine And.intro (by first | rfl | exact Nat.le_of_ble_eq_true rfl | decide | omega | (simp; done) | (simp; omega)) ?_) | (refine rec_t (by first | (simp; done) | (simp; omega) | omega) (fun _ => ?_)) | (refine rec_f (by first | (simp; done) | (simp; omega) | omega) (fun _ => ?_)) | (refine opt_i (gLen_str (by first | (simp; done) | (simp; omega) | omega)) ?_) | (refine opt_i (gDiv_pos (by first | (simp; done) | (simp; omega) | omega) (by first | (simp; done) | (simp; omega) | omega)) ?_) | (refine opt_i (gMd_pos (by first | (simp; done) | (simp; omega) | omega)) ?_)))); (conv => whnf)
    exact val2 (d' := .bl true) (by simp [eqD]) k
  | ring j =>
    obtain ⟨h1, h2⟩ := ok
    unfold layD
    (try simp only [slots0, wipeS, backS, List.map_cons, List.map_nil, List.replicate, List.set_cons_zero, List.set_cons_succ, List.getElem?_cons_zero, List.getElem?_cons_succ, List.cons_append, List.nil_append]); (repeat ((conv => whnf); (first | (refine And.intro (by first | rfl | exact Nat.le_of_ble_eq_true rfl | decide | omega | (simp; done) | (simp; omega)) ?_) | (refine rec_t (by first | (simp; done) | (simp; omega) | omega) (fun _ => ?_)) | (refine rec_f (by first | (simp; done) | (simp; omega) | omega) (fun _ => ?_)) | (refine opt_i (gLen_str (by first | (simp; done) | (simp; omega) | omega)) ?_) | (refine opt_i (gDiv_pos (by first | (simp; done) | (simp; omega) | omega) (by first | (simp; done) | (simp; omega) | omega)) ?_) | (refine opt_i (gMd_pos (by first | (simp; done) | (simp; omega) | omega)) ?_)))); (conv => whnf)
    refine opt_i (gEq_str okR okR) ?_
    (try simp only [slots0, wipeS, backS, List.map_cons, List.map_nil, List.replicate, List.set_cons_zero, List.set_cons_succ, List.getElem?_cons_zero, List.getElem?_cons_succ, List.cons_append, List.nil_append]); (repeat ((conv => whnf); (first | (refine And.intro (by first | rfl | exact Nat.le_of_ble_eq_true rfl | decide | omega | (simp; done) | (simp; omega)) ?_) | (refine rec_t (by first | (simp; done) | (simp; omega) | omega) (fun _ => ?_)) | (refine rec_f (by first | (simp; done) | (simp; omega) | omega) (fun _ => ?_)) | (refine opt_i (gLen_str (by first | (simp; done) | (simp; omega) | omega)) ?_) | (refine opt_i (gDiv_pos (by first | (simp; done) | (simp; omega) | omega) (by first | (simp; done) | (simp; omega) | omega)) ?_) | (refine opt_i (gMd_pos (by first | (simp; done) | (simp; omega) | omega)) ?_)))); (conv => whnf)
    apply s_is_integer
    (try simp only [slots0, wipeS, backS, List.map_cons, List.map_nil, List.replicate, List.set_cons_zero, List.set_cons_succ, List.getElem?_cons_zero, List.getElem?_cons_succ, List.cons_append, List.nil_append]); (repeat ((conv => whnf); (first | (refine And.intro (by first | rfl | exact Nat.le_of_ble_eq_true rfl | decide | omega | (simp [h1, h2]; done) | (simp [h1, h2]; omega)) ?_) | (refine rec_t (by first | (simp [h1, h2]; done) | (simp [h1, h2]; omega) | omega) (fun _ => ?_)) | (refine rec_f (by first | (simp [h1, h2]; done) | (simp [h1, h2]; omega) | omega) (fun _ => ?_)) | (refine opt_i (gLen_str (by first | (simp [h1, h2]; done) | (simp [h1, h2]; omega) | omega)) ?_) | (refine opt_i (gDiv_pos (by first | (simp [h1, h2]; done) | (simp [h1, h2]; omega) | omega) (by first | (simp [h1, h2]; done) | (simp [h1, h2]; omega) | omega)) ?_) | (refine opt_i (gMd_pos (by first | (simp [h1, h2]; done) | (simp [h1, h2]; omega) | omega)) ?_)))); (conv => whnf)
    exact val2 (d' := .bl true) (congrArg D.bl (decide_eq_true h2)) k
theorem s_low_high {l : Lay} {s : Int} (k : q (.tup [.int (low l s), .int (high l s)]) n) : w_low_high [layD l, .int s] n q := by
  unfold w_low_high
  cases l with
  | up =>
    unfold layD
    (try simp only [slots0, wipeS, backS, List.map_cons, List.map_nil, List.replicate, List.set_cons_zero, List.set_cons_succ, List.getElem?_cons_zero, List.getElem?_cons_succ, List.cons_append, List.nil_append]); (repeat ((conv => whnf); (first | (refine And.intro (by first | rfl | exact Nat.le_of_ble_eq_true rfl | decide | omega | (simp; done) | (simp; omega)) ?_) | (refine rec_t (by first | (simp; done) | (simp; omega) | omega) (fun _ => ?_)) | (refine rec_f (by first | (simp; done) | (simp; omega) | omega) (fun _ => ?_)) | (refine opt_i (gLen_str (by first | (simp; done) | (simp; omega) | omega)) ?_) | (refine opt_i (gDiv_pos (by first | (simp; done) | (simp; omega) | omega) (by first | (simp; done) | (simp; omega) | omega)) ?_) | (refine opt_i (gMd_pos (by first | (simp; done) | (simp; omega) | omega)) ?_)))); (conv => whnf)
    refine opt_i (gEq_str okU okU) ?_
    (try simp only [slots0, wipeS, backS, List.map_cons, List.map_nil, List.replicate, List.set_cons_zero, List.set_cons_succ, List.getElem?_cons_zero, List.getElem?_cons_succ, List.cons_append, List.nil_append]); (repeat ((conv => whnf); (first | (refine And.intro (by first | rfl | exact Nat.le_of_ble_eq_true rfl | decide | omega | (simp; done) | (simp; omega)) ?_) | (refine rec_t (by first | (simp; done) | (simp; omega) | omega) (fun _ => ?_)) | (refine rec_f (by first | (simp; done) | (simp; omega) | omega) (fun _ => ?_)) | (refine opt_i (gLen_str (by first | (simp; done) | (simp; omega) | omega)) ?_) | (refine opt_i (gDiv_pos (by first | (simp; done) | (simp; omega) | omega) (by first | (simp; done) | (simp; omega) | omega)) ?_) | (refine opt_i (gMd_pos (by first | (simp; done) | (simp; omega) | omega)) ?_)))); (conv => whnf)
    exact k
  | down =>
    unfold layD
    (try simp only [slots0, wipeS, backS, List.map_cons, List.map_nil, List.replicate, List.set_cons_zero, List.set_cons_succ, List.getElem?_cons_zero, List.getElem?_cons_succ, List.cons_append, List.nil_append]); (repeat ((conv => whnf); (first | (refine And.intro (by first | rfl | exact Nat.le_of_ble_eq_true rfl | decide | omega | (simp; done) | (simp; omega)) ?_) | (refine rec_t (by first | (simp; done) | (simp; omega) | omega) (fun _ => ?_)) | (refine rec_f (by first | (simp; done) | (simp; omega) | omega) (fun _ => ?_)) | (refine opt_i (gLen_str (by first | (simp; done) | (simp; omega) | omega)) ?_) | (refine opt_i (gDiv_pos (by first | (simp; done) | (simp; omega) | omega) (by first | (simp; done) | (simp; omega) | omega)) ?_) | (refine opt_i (gMd_pos (by first | (simp; done) | (simp; omega) | omega)) ?_)))); (conv => whnf)
    refine opt_i (gEq_str okD okU) ?_
    (try simp only [slots0, wipeS, backS, List.map_cons, List.map_nil, List.replicate, List.set_cons_zero, List.set_cons_succ, List.getElem?_cons_zero, List.getElem?_cons_succ, List.cons_append, List.nil_append]); (repeat ((conv => whnf); (first | (refine And.intro (by first | rfl | exact Nat.le_of_ble_eq_true rfl | decide | omega | (simp [neDU]; done) | (simp [neDU]; omega)) ?_) | (refine rec_t (by first | (simp [neDU]; done) | (simp [neDU]; omega) | omega) (fun _ => ?_)) | (refine rec_f (by first | (simp [neDU]; done) | (simp [neDU]; omega) | omega) (fun _ => ?_)) | (refine opt_i (gLen_str (by first | (simp [neDU]; done) | (simp [neDU]; omega) | omega)) ?_) | (refine opt_i (gDiv_pos (by first | (simp [neDU]; done) | (simp [neDU]; omega) | omega) (by first | (simp [neDU]; done) | (simp [neDU]; omega) | omega)) ?_) | (refine opt_i (gMd_pos (by first | (simp [neDU]; done) | (simp [neDU]; omega) | omega)) ?_)))); (conv => whnf)
    refine opt_i (gEq_str okD okD) ?_
    (try simp only [slots0, wipeS, backS, List.map_cons, List.map_nil, List.replicate, List.set_cons_zero, List.set_cons_succ, List.getElem?_cons_zero, List.getElem?_cons_succ, List.cons_append, List.nil_append]); (repeat ((conv => whnf); (first | (refine And.intro (by first | rfl | exact Nat.le_of_ble_eq_true rfl | decide | omega | (simp; done) | (simp; omega)) ?_) | (refine rec_t (by first | (simp; done) | (simp; omega) | omega) (fun _ => ?_)) | (refine rec_f (by first | (simp; done) | (simp; omega) | omega) (fun _ => ?_)) | (refine opt_i (gLen_str (by first | (simp; done) | (simp; omega) | omega)) ?_) | (refine opt_i (gDiv_pos (by first | (simp; done) | (simp; omega) | omega) (by first | (simp; done) | (simp; omega) | omega)) ?_) | (refine opt_i (gMd_pos (by first | (simp; done) | (simp; omega) | omega)) ?_)))); (conv => whnf)
    exact k
  | ring j =>
    unfold layD
    (try simp only [slots0, wipeS, backS, List.map_cons, List.map_nil, List.replicate, List.set_cons_zero, List.set_cons_succ, List.getElem?_cons_zero, List.getElem?_cons_succ, List.cons_append, List.nil_append]); (repeat ((conv => whnf); (first | (refine And.intro (by first | rfl | exact Nat.le_of_ble_eq_true rfl | decide | omega | (simp; done) | (simp; omega)) ?_) | (refine rec_t (by first | (simp; done) | (simp; omega) | omega) (fun _ => ?_)) | (refine rec_f (by first | (simp; done) | (simp; omega) | omega) (fun _ => ?_)) | (refine opt_i (gLen_str (by first | (simp; done) | (simp; omega) | omega)) ?_) | (refine opt_i (gDiv_pos (by first | (simp; done) | (simp; omega) | omega) (by first | (simp; done) | (simp; omega) | omega)) ?_) | (refine opt_i (gMd_pos (by first | (simp; done) | (simp; omega) | omega)) ?_)))); (conv => whnf)
    refine opt_i (gEq_ring okU) ?_
    (try simp only [slots0, wipeS, backS, List.map_cons, List.map_nil, List.replicate, List.set_cons_zero, List.set_cons_succ, List.getElem?_cons_zero, List.getElem?_cons_succ, List.cons_append, List.nil_append]); (repeat ((conv => whnf); (first | (refine And.intro (by first | rfl | exact Nat.le_of_ble_eq_true rfl | decide | omega | (simp; done) | (simp; omega)) ?_) | (refine rec_t (by first | (simp; done) | (simp; omega) | omega) (fun _ => ?_)) | (refine rec_f (by first | (simp; done) | (simp; omega) | omega) (fun _ => ?_)) | (refine opt_i (gLen_str (by first | (simp; done) | (simp; omega) | omega)) ?_) | (refine opt_i (gDiv_pos (by first | (simp; done) | (simp; omega) | omega) (by first | (simp; done) | (simp; omega) | omega)) ?_) | (refine opt_i (gMd_pos (by first | (simp; done) | (simp; omega) | omega)) ?_)))); (conv => whnf)
    refine opt_i (gEq_ring okD) ?_
    (try simp only [slots0, wipeS, backS, List.map_cons, List.map_nil, List.replicate, List.set_cons_zero, List.set_cons_succ, List.getElem?_cons_zero, List.getElem?_cons_succ, List.cons_append, List.nil_append]); (repeat ((conv => whnf); (first | (refine And.intro (by first | rfl | exact Nat.le_of_ble_eq_true rfl | decide | omega | (simp; done) | (simp; omega)) ?_) | (refine rec_t (by first | (simp; done) | (simp; omega) | omega) (fun _ => ?_)) | (refine rec_f (by first | (simp; done) | (simp; omega) | omega) (fun _ => ?_)) | (refine opt_i (gLen_str (by first | (simp; done) | (simp; omega) | omega)) ?_) | (refine opt_i (gDiv_pos (by first | (simp; done) | (simp; omega) | omega) (by first | (simp; done) | (simp; omega) | omega)) ?_) | (refine opt_i (gMd_pos (by first | (simp; done) | (simp; omega) | omega)) ?_)))); (conv => whnf)
    exact k
/-- places for the arrays as: one for each, in any order, no cell below 0 -/
structure RowsOk (as : Arr) (rs : List Row) : Prop where
  each : ∀ r ∈ rs, ∃ sz, (r.1, sz) ∈ as ∧ 0 ≤ r.2.1 + low r.2.2 sz ∧ LayOk r.2.2
  perm : (rs.map (·.1)).Perm (as.map (·.1))
theorem RowsOk.len {as : Arr} {rs : List Row} (h : RowsOk as rs) : rs.length = as.length := by
  have := h.perm.length_eq
  simpa using this
theorem RowsOk.nodup {as : Arr} {rs : List Row} (h : RowsOk as rs) (ok : ArrOk as) : (rs.map (·.1)).Nodup := h.perm.nodup_iff.mpr ok.nodup
/-- two lists of the same texts, one ordered strictly, the other one loosely -/
theorem sorted_eq : ∀ {l m : List Str}, l.Perm m → l.Pairwise (fun a b => ltSt b a = false) → m.Pairwise (fun a b => ltSt a b = true) → l = m
  | [], m, p, _, _ => (List.Perm.eq_nil p.symm).symm
  | a :: l, [], p, _, _ => absurd p.length_eq (by simp)
  | a :: l, b :: m, p, h1, h2 => by
    have e : a = b := by
      rcases List.mem_cons.mp (p.mem_iff.mp List.mem_cons_self) with e | ha
      · exact e
      · have z1 := (List.pairwise_cons.mp h2).1 a ha
        rcases List.mem_cons.mp (p.mem_iff.mpr List.mem_cons_self) with e | hb
        · exact e.symm
        · have z2 := (List.pairwise_cons.mp h1).1 b hb
          rw [z1] at z2; cases z2
    subst e
    rw [sorted_eq p.cons_inv (List.pairwise_cons.mp h1).2 (List.pairwise_cons.mp h2).2]
theorem eqv_strs : ∀ l : List Str, PyData.eqvAll (l.map .str) (l.map .str) = true
  | [] => rfl
  | a :: l => by
    show ((a == a) && PyData.eqvAll (l.map .str) (l.map .str)) = true
    rw [eqv_strs l]
    simp
theorem toPL_strs : ∀ l : List Str, toPL (l.map D.str) = some (l.map .str)
  | [] => rfl
  | a :: l => by
    show (match toP (.str a), toPL (l.map D.str) with
      | some x, some xs => some (x :: xs)
      | _, _ => none) = _
    rw [toPL_strs l]
    rfl
theorem canLay_strs : ∀ {l : List Str}, (∀ a ∈ l, PyData.strOk a = true) → PyData.canLayAll0 (l.map .str) = true ∧ PyData.depthAll (l.map .str) = 0
  | [], _ => ⟨rfl, rfl⟩
  | a :: l, h => by
    obtain ⟨h1, h2⟩ := canLay_strs (l := l) fun b hb => h b (List.mem_cons_of_mem _ hb)
    constructor
    · show (PyData.strOk a && PyData.canLayAll0 (l.map .str)) = true
      rw [h a List.mem_cons_self, h1]
      rfl
    · show max 0 (PyData.depthAll (l.map .str)) = 0
      rw [h2]
      rfl
theorem gEq_strs {l : List Str} (h : ∀ a ∈ l, PyData.strOk a = true) : gEq (.lst (l.map D.str)) (.lst (l.map D.str)) = some (.bl true) := by
  obtain ⟨h1, h2⟩ := canLay_strs h
  have e : toP (.lst (l.map D.str)) = some (.list (l.map .str)) := by
    show (toPL (l.map D.str)).map PyData.list = _
    rw [toPL_strs]
    rfl
  have sh : SeqAt.shaped (.list (l.map .str)) = true := by
    unfold SeqAt.shaped
    rw [show PyData.canLay0 (.list (l.map .str)) = PyData.canLayAll0 (l.map .str) from rfl, h1, show PyData.depth (.list (l.map .str)) = PyData.depthAll (l.map .str) + 1 from rfl, h2]
    rfl
  rw [gEq_of e e sh sh, show PyData.eqv (.list (l.map .str)) (.list (l.map .str)) = PyData.eqvAll (l.map .str) (l.map .str) from rfl, eqv_strs]
def fHd : D → D
  | .tup (a :: _) => a
  | _ => .non
theorem row_names (rs : List Row) : (rs.map rowD).map fHd = (rs.map (·.1)).map D.str := by
  rw [List.map_map, List.map_map]
  rfl
theorem strD_map' (l : List Str) : (l.map D.str).map strD = l.map some := by
  rw [List.map_map]
  rfl
theorem s_are_places {rs : List Row} (ok : ArrOk as) (rok : RowsOk as rs) (k : q (.bl true) n) : w_are_places [progG as lo ou wr, .tup (rs.map rowD)] n q := by
  have hl := rok.len
  have h1 := ok.lo
  have h2 := ok.hi
  unfold w_are_places
  (try simp only [slots0, wipeS, backS, List.map_cons, List.map_nil, List.replicate, List.set_cons_zero, List.set_cons_succ, List.getElem?_cons_zero, List.getElem?_cons_succ, List.cons_append, List.nil_append]); (repeat ((conv => whnf); (first | (refine And.intro (by first | rfl | exact Nat.le_of_ble_eq_true rfl | decide | omega | (simp; done) | (simp; omega)) ?_) | (refine rec_t (by first | (simp; done) | (simp; omega) | omega) (fun _ => ?_)) | (refine rec_f (by first | (simp; done) | (simp; omega) | omega) (fun _ => ?_)) | (refine opt_i (gLen_str (by first | (simp; done) | (simp; omega) | omega)) ?_) | (refine opt_i (gDiv_pos (by first | (simp; done) | (simp; omega) | omega) (by first | (simp; done) | (simp; omega) | omega)) ?_) | (refine opt_i (gMd_pos (by first | (simp; done) | (simp; omega) | omega)) ?_)))); (conv => whnf)
  refine loop_inv (fun i ρ m => m = n ∧ ((i = 0 ∧ ρ = [.val (progG as lo ou wr), .val (.tup (rs.map rowD)), .un, .un, .un, .un, .un]) ∨ ∃ a b c e, ρ = [.val (progG as lo ou wr), .val (.tup (rs.map rowD)), .val a, .val b, .val c, .val e, .un])) _ (fun i e ρ m he hI Z hZ => ?_) (fun ρ m hI => ?_) _ _ ⟨rfl, .inl ⟨rfl, rfl⟩⟩
  · obtain ⟨rfl, hρ⟩ := hI
    obtain ⟨r, hr, rfl⟩ := List.mem_map.mp (List.mem_of_getElem? he)
    obtain ⟨sz, hs, hlow, hlay⟩ := rok.each r hr
    have hin : r.1 ∈ as.map (·.1) := List.mem_map.mpr ⟨_, hs, rfl⟩
    rcases hρ with ⟨_, rfl⟩ | ⟨a, b, c, e, rfl⟩
    · (try simp only [slots0, wipeS, backS, List.map_cons, List.map_nil, List.replicate, List.set_cons_zero, List.set_cons_succ, List.getElem?_cons_zero, List.getElem?_cons_succ, List.cons_append, List.nil_append]); (repeat ((conv => whnf); (first | (refine And.intro (by first | rfl | exact Nat.le_of_ble_eq_true rfl | decide | omega | (simp; done) | (simp; omega)) ?_) | (refine rec_t (by first | (simp; done) | (simp; omega) | omega) (fun _ => ?_)) | (refine rec_f (by first | (simp; done) | (simp; omega) | omega) (fun _ => ?_)) | (refine opt_i (gLen_str (by first | (simp; done) | (simp; omega) | omega)) ?_) | (refine opt_i (gDiv_pos (by first | (simp; done) | (simp; omega) | omega) (by first | (simp; done) | (simp; omega) | omega)) ?_) | (refine opt_i (gMd_pos (by first | (simp; done) | (simp; omega) | omega)) ?_)))); (conv => whnf)
      apply s_contains hin h2
      (try simp only [slots0, wipeS, backS, List.map_cons, List.map_nil, List.replicate, List.set_cons_zero, List.set_cons_succ, List.getElem?_cons_zero, List.getElem?_cons_succ, List.cons_append, List.nil_append]); (repeat ((conv => whnf); (first | (refine And.intro (by first | rfl | exact Nat.le_of_ble_eq_true rfl | decide | omega | (simp; done) | (simp; omega)) ?_) | (refine rec_t (by first | (simp; done) | (simp; omega) | omega) (fun _ => ?_)) | (refine rec_f (by first | (simp; done) | (simp; omega) | omega) (fun _ => ?_)) | (refine opt_i (gLen_str (by first | (simp; done) | (simp; omega) | omega)) ?_) | (refine opt_i (gDiv_pos (by first | (simp; done) | (simp; omega) | omega) (by first | (simp; done) | (simp; omega) | omega)) ?_) | (refine opt_i (gMd_pos (by first | (simp; done) | (simp; omega) | omega)) ?_)))); (conv => whnf)
      apply s_is_integer
      (try simp only [slots0, wipeS, backS, List.map_cons, List.map_nil, List.replicate, List.set_cons_zero, List.set_cons_succ, List.getElem?_cons_zero, List.getElem?_cons_succ, List.cons_append, List.nil_append]); (repeat ((conv => whnf); (first | (refine And.intro (by first | rfl | exact Nat.le_of_ble_eq_true rfl | decide | omega | (simp; done) | (simp; omega)) ?_) | (refine rec_t (by first | (simp; done) | (simp; omega) | omega) (fun _ => ?_)) | (refine rec_f (by first | (simp; done) | (simp; omega) | omega) (fun _ => ?_)) | (refine opt_i (gLen_str (by first | (simp; done) | (simp; omega) | omega)) ?_) | (refine opt_i (gDiv_pos (by first | (simp; done) | (simp; omega) | omega) (by first | (simp; done) | (simp; omega) | omega)) ?_) | (refine opt_i (gMd_pos (by first | (simp; done) | (simp; omega) | omega)) ?_)))); (conv => whnf)
      apply s_is_layout hlay
      (try simp only [slots0, wipeS, backS, List.map_cons, List.map_nil, List.replicate, List.set_cons_zero, List.set_cons_succ, List.getElem?_cons_zero, List.getElem?_cons_succ, List.cons_append, List.nil_append]); (repeat ((conv => whnf); (first | (refine And.intro (by first | rfl | exact Nat.le_of_ble_eq_true rfl | decide | omega | (simp; done) | (simp; omega)) ?_) | (refine rec_t (by first | (simp; done) | (simp; omega) | omega) (fun _ => ?_)) | (refine rec_f (by first | (simp; done) | (simp; omega) | omega) (fun _ => ?_)) | (refine opt_i (gLen_str (by first | (simp; done) | (simp; omega) | omega)) ?_) | (refine opt_i (gDiv_pos (by first | (simp; done) | (simp; omega) | omega) (by first | (simp; done) | (simp; omega) | omega)) ?_) | (refine opt_i (gMd_pos (by first | (simp; done) | (simp; omega) | omega)) ?_)))); (conv => whnf)
      apply s_size_of ok hs
      (try simp only [slots0, wipeS, backS, List.map_cons, List.map_nil, List.replicate, List.set_cons_zero, List.set_cons_succ, List.getElem?_cons_zero, List.getElem?_cons_succ, List.cons_append, List.nil_append]); (repeat ((conv => whnf); (first | (refine And.intro (by first | rfl | exact Nat.le_of_ble_eq_true rfl | decide | omega | (simp; done) | (simp; omega)) ?_) | (refine rec_t (by first | (simp; done) | (simp; omega) | omega) (fun _ => ?_)) | (refine rec_f (by first | (simp; done) | (simp; omega) | omega) (fun _ => ?_)) | (refine opt_i (gLen_str (by first | (simp; done) | (simp; omega) | omega)) ?_) | (refine opt_i (gDiv_pos (by first | (simp; done) | (simp; omega) | omega) (by first | (simp; done) | (simp; omega) | omega)) ?_) | (refine opt_i (gMd_pos (by first | (simp; done) | (simp; omega) | omega)) ?_)))); (conv => whnf)
      apply s_low_high
      (try simp only [slots0, wipeS, backS, List.map_cons, List.map_nil, List.replicate, List.set_cons_zero, List.set_cons_succ, List.getElem?_cons_zero, List.getElem?_cons_succ, List.cons_append, List.nil_append]); (repeat ((conv => whnf); (first | (refine And.intro (by first | rfl | exact Nat.le_of_ble_eq_true rfl | decide | omega | (simp [hlow]; done) | (simp [hlow]; omega)) ?_) | (refine rec_t (by first | (simp [hlow]; done) | (simp [hlow]; omega) | omega) (fun _ => ?_)) | (refine rec_f (by first | (simp [hlow]; done) | (simp [hlow]; omega) | omega) (fun _ => ?_)) | (refine opt_i (gLen_str (by first | (simp [hlow]; done) | (simp [hlow]; omega) | omega)) ?_) | (refine opt_i (gDiv_pos (by first | (simp [hlow]; done) | (simp [hlow]; omega) | omega) (by first | (simp [hlow]; done) | (simp [hlow]; omega) | omega)) ?_) | (refine opt_i (gMd_pos (by first | (simp [hlow]; done) | (simp [hlow]; omega) | omega)) ?_)))); (conv => whnf)
      exact hZ _ _ ⟨rfl, .inr ⟨_, _, _, _, rfl⟩⟩
    · (try simp only [slots0, wipeS, backS, List.map_cons, List.map_nil, List.replicate, List.set_cons_zero, List.set_cons_succ, List.getElem?_cons_zero, List.getElem?_cons_succ, List.cons_append, List.nil_append]); (repeat ((conv => whnf); (first | (refine And.intro (by first | rfl | exact Nat.le_of_ble_eq_true rfl | decide | omega | (simp; done) | (simp; omega)) ?_) | (refine rec_t (by first | (simp; done) | (simp; omega) | omega) (fun _ => ?_)) | (refine rec_f (by first | (simp; done) | (simp; omega) | omega) (fun _ => ?_)) | (refine opt_i (gLen_str (by first | (simp; done) | (simp; omega) | omega)) ?_) | (refine opt_i (gDiv_pos (by first | (simp; done) | (simp; omega) | omega) (by first | (simp; done) | (simp; omega) | omega)) ?_) | (refine opt_i (gMd_pos (by first | (simp; done) | (simp; omega) | omega)) ?_)))); (conv => whnf)
      apply s_contains hin h2
      (try simp only [slots0, wipeS, backS, List.map_cons, List.map_nil, List.replicate, List.set_cons_zero, List.set_cons_succ, List.getElem?_cons_zero, List.getElem?_cons_succ, List.cons_append, List.nil_append]); (repeat ((conv => whnf); (first | (refine And.intro (by first | rfl | exact Nat.le_of_ble_eq_true rfl | decide | omega | (simp; done) | (simp; omega)) ?_) | (refine rec_t (by first | (simp; done) | (simp; omega) | omega) (fun _ => ?_)) | (refine rec_f (by first | (simp; done) | (simp; omega) | omega) (fun _ => ?_)) | (refine opt_i (gLen_str (by first | (simp; done) | (simp; omega) | omega)) ?_) | (refine opt_i (gDiv_pos (by first | (simp; done) | (simp; omega) | omega) (by first | (simp; done) | (simp; omega) | omega)) ?_) | (refine opt_i (gMd_pos (by first | (simp; done) | (simp; omega) | omega)) ?_)))); (conv => whnf)
      apply s_is_integer
      (try simp only [slots0, wipeS, backS, List.map_cons, List.map_nil, List.replicate, List.set_cons_zero, List.set_cons_succ, List.getElem?_cons_zero, List.getElem?_cons_succ, List.cons_append, List.nil_append]); (repeat ((conv => whnf); (first | (refine And.intro (by first | rfl | exact Nat.le_of_ble_eq_true rfl | decide | omega | (simp; done) | (simp; omega)) ?_) | (refine rec_t (by first | (simp; done) | (simp; omega) | omega) (fun _ => ?_)) | (refine rec_f (by first | (simp; done) | (simp; omega) | omega) (fun _ => ?_)) | (refine opt_i (gLen_str (by first | (simp; done) | (simp; omega) | omega)) ?_) | (refine opt_i (gDiv_pos (by first | (simp; done) | (simp; omega) | omega) (by first | (simp; done) | (simp; omega) | omega)) ?_) | (refine opt_i (gMd_pos (by first | (simp; done) | (simp; omega) | omega)) ?_)))); (conv => whnf)
      apply s_is_layout hlay
      (try simp only [slots0, wipeS, backS, List.map_cons, List.map_nil, List.replicate, List.set_cons_zero, List.set_cons_succ, List.getElem?_cons_zero, List.getElem?_cons_succ, List.cons_append, List.nil_append]); (repeat ((conv => whnf); (first | (refine And.intro (by first | rfl | exact Nat.le_of_ble_eq_true rfl | decide | omega | (simp; done) | (simp; omega)) ?_) | (refine rec_t (by first | (simp; done) | (simp; omega) | omega) (fun _ => ?_)) | (refine rec_f (by first | (simp; done) | (simp; omega) | omega) (fun _ => ?_)) | (refine opt_i (gLen_str (by first | (simp; done) | (simp; omega) | omega)) ?_) | (refine opt_i (gDiv_pos (by first | (simp; done) | (simp; omega) | omega) (by first | (simp; done) | (simp; omega) | omega)) ?_) | (refine opt_i (gMd_pos (by first | (simp; done) | (simp; omega) | omega)) ?_)))); (conv => whnf)
      apply s_size_of ok hs
      (try simp only [slots0, wipeS, backS, List.map_cons, List.map_nil, List.replicate, List.set_cons_zero, List.set_cons_succ, List.getElem?_cons_zero, List.getElem?_cons_succ, List.cons_append, List.nil_append]); (repeat ((conv => whnf); (first | (refine And.intro (by first | rfl | exact Nat.le_of_ble_eq_true rfl | decide | omega | (simp; done) | (simp; omega)) ?_) | (refine rec_t (by first | (simp; done) | (simp; omega) | omega) (fun _ => ?_)) | (refine rec_f (by first | (simp; done) | (simp; omega) | omega) (fun _ => ?_)) | (refine opt_i (gLen_str (by first | (simp; done) | (simp; omega) | omega)) ?_) | (refine opt_i (gDiv_pos (by first | (simp; done) | (simp; omega) | omega) (by first | (simp; done) | (simp; omega) | omega)) ?_) | (refine opt_i (gMd_pos (by first | (simp; done) | (simp; omega) | omega)) ?_)))); (conv => whnf)
      apply s_low_high
      (try simp only [slots0, wipeS, backS, List.map_cons, List.map_nil, List.replicate, List.set_cons_zero, List.set_cons_succ, List.getElem?_cons_zero, List.getElem?_cons_succ, List.cons_append, List.nil_append]); (repeat ((conv => whnf); (first | (refine And.intro (by first | rfl | exact Nat.le_of_ble_eq_true rfl | decide | omega | (simp [hlow]; done) | (simp [hlow]; omega)) ?_) | (refine rec_t (by first | (simp [hlow]; done) | (simp [hlow]; omega) | omega) (fun _ => ?_)) | (refine rec_f (by first | (simp [hlow]; done) | (simp [hlow]; omega) | omega) (fun _ => ?_)) | (refine opt_i (gLen_str (by first | (simp [hlow]; done) | (simp [hlow]; omega) | omega)) ?_) | (refine opt_i (gDiv_pos (by first | (simp [hlow]; done) | (simp [hlow]; omega) | omega) (by first | (simp [hlow]; done) | (simp [hlow]; omega) | omega)) ?_) | (refine opt_i (gMd_pos (by first | (simp [hlow]; done) | (simp [hlow]; omega) | omega)) ?_)))); (conv => whnf)
      exact hZ _ _ ⟨rfl, .inr ⟨_, _, _, _, rfl⟩⟩
  · obtain ⟨rfl, hρ⟩ := hI
    rcases hρ with ⟨z, _⟩ | ⟨a, b, c, e, rfl⟩
    · exfalso
      simp at z
      rw [z] at hl
      simp at hl
      omega
    · (try simp only [slots0, wipeS, backS, List.map_cons, List.map_nil, List.replicate, List.set_cons_zero, List.set_cons_succ, List.getElem?_cons_zero, List.getElem?_cons_succ, List.cons_append, List.nil_append]); (repeat ((conv => whnf); (first | (refine And.intro (by first | rfl | exact Nat.le_of_ble_eq_true rfl | decide | omega | (simp; done) | (simp; omega)) ?_) | (refine rec_t (by first | (simp; done) | (simp; omega) | omega) (fun _ => ?_)) | (refine rec_f (by first | (simp; done) | (simp; omega) | omega) (fun _ => ?_)) | (refine opt_i (gLen_str (by first | (simp; done) | (simp; omega) | omega)) ?_) | (refine opt_i (gDiv_pos (by first | (simp; done) | (simp; omega) | omega) (by first | (simp; done) | (simp; omega) | omega)) ?_) | (refine opt_i (gMd_pos (by first | (simp; done) | (simp; omega) | omega)) ?_)))); (conv => whnf)
      refine comp_map fHd _ _ (fun e he R hR => ?_) (by simp; omega) ?_
      · obtain ⟨r, hr, rfl⟩ := List.mem_map.mp he
        (try simp only [slots0, wipeS, backS, List.map_cons, List.map_nil, List.replicate, List.set_cons_zero, List.set_cons_succ, List.getElem?_cons_zero, List.getElem?_cons_succ, List.cons_append, List.nil_append]); (repeat ((conv => whnf); (first | (refine And.intro (by first | rfl | exact Nat.le_of_ble_eq_true rfl | decide | omega | (simp; done) | (simp; omega)) ?_) | (refine rec_t (by first | (simp; done) | (simp; omega) | omega) (fun _ => ?_)) | (refine rec_f (by first | (simp; done) | (simp; omega) | omega) (fun _ => ?_)) | (refine opt_i (gLen_str (by first | (simp; done) | (simp; omega) | omega)) ?_) | (refine opt_i (gDiv_pos (by first | (simp; done) | (simp; omega) | omega) (by first | (simp; done) | (simp; omega) | omega)) ?_) | (refine opt_i (gMd_pos (by first | (simp; done) | (simp; omega) | omega)) ?_)))); (conv => whnf)
        exact hR _ (by rfl) (by rfl)
      · rw [List.nil_append, row_names]
        (try simp only [slots0, wipeS, backS, List.map_cons, List.map_nil, List.replicate, List.set_cons_zero, List.set_cons_succ, List.getElem?_cons_zero, List.getElem?_cons_succ, List.cons_append, List.nil_append]); (repeat ((conv => whnf); (first | (refine And.intro (by first | rfl | exact Nat.le_of_ble_eq_true rfl | decide | omega | (simp; done) | (simp; omega)) ?_) | (refine rec_t (by first | (simp; done) | (simp; omega) | omega) (fun _ => ?_)) | (refine rec_f (by first | (simp; done) | (simp; omega) | omega) (fun _ => ?_)) | (refine opt_i (gLen_str (by first | (simp; done) | (simp; omega) | omega)) ?_) | (refine opt_i (gDiv_pos (by first | (simp; done) | (simp; omega) | omega) (by first | (simp; done) | (simp; omega) | omega)) ?_) | (refine opt_i (gMd_pos (by first | (simp; done) | (simp; omega) | omega)) ?_)))); (conv => whnf)
        refine ⟨rs.map (·.1), strD_map' _, by simp; omega, fun ms hp hs => ?_⟩
        have e := sorted_eq (hp.trans rok.perm) hs ok.asc
        subst e
        unfold progG arrD
        (try simp only [slots0, wipeS, backS, List.map_cons, List.map_nil, List.replicate, List.set_cons_zero, List.set_cons_succ, List.getElem?_cons_zero, List.getElem?_cons_succ, List.cons_append, List.nil_append]); (repeat ((conv => whnf); (first | (refine And.intro (by first | rfl | exact Nat.le_of_ble_eq_true rfl | decide | omega | (simp; done) | (simp; omega)) ?_) | (refine rec_t (by first | (simp; done) | (simp; omega) | omega) (fun _ => ?_)) | (refine rec_f (by first | (simp; done) | (simp; omega) | omega) (fun _ => ?_)) | (refine opt_i (gLen_str (by first | (simp; done) | (simp; omega) | omega)) ?_) | (refine opt_i (gDiv_pos (by first | (simp; done) | (simp; omega) | omega) (by first | (simp; done) | (simp; omega) | omega)) ?_) | (refine opt_i (gMd_pos (by first | (simp; done) | (simp; omega) | omega)) ?_)))); (conv => whnf)
        refine comp_map fFst _ _ (fun e he R hR => ?_) (by simp; omega) ?_
        · obtain ⟨x, hx, rfl⟩ := List.mem_map.mp he
          (try simp only [slots0, wipeS, backS, List.map_cons, List.map_nil, List.replicate, List.set_cons_zero, List.set_cons_succ, List.getElem?_cons_zero, List.getElem?_cons_succ, List.cons_append, List.nil_append]); (repeat ((conv => whnf); (first | (refine And.intro (by first | rfl | exact Nat.le_of_ble_eq_true rfl | decide | omega | (simp; done) | (simp; omega)) ?_) | (refine rec_t (by first | (simp; done) | (simp; omega) | omega) (fun _ => ?_)) | (refine rec_f (by first | (simp; done) | (simp; omega) | omega) (fun _ => ?_)) | (refine opt_i (gLen_str (by first | (simp; done) | (simp; omega) | omega)) ?_) | (refine opt_i (gDiv_pos (by first | (simp; done) | (simp; omega) | omega) (by first | (simp; done) | (simp; omega) | omega)) ?_) | (refine opt_i (gMd_pos (by first | (simp; done) | (simp; omega) | omega)) ?_)))); (conv => whnf)
          exact hR _ (by rfl) (by rfl)
        · rw [List.nil_append, names_map]
          (try simp only [slots0, wipeS, backS, List.map_cons, List.map_nil, List.replicate, List.set_cons_zero, List.set_cons_succ, List.getElem?_cons_zero, List.getElem?_cons_succ, List.cons_append, List.nil_append]); (repeat ((conv => whnf); (first | (refine And.intro (by first | rfl | exact Nat.le_of_ble_eq_true rfl | decide | omega | (simp; done) | (simp; omega)) ?_) | (refine rec_t (by first | (simp; done) | (simp; omega) | omega) (fun _ => ?_)) | (refine rec_f (by first | (simp; done) | (simp; omega) | omega) (fun _ => ?_)) | (refine opt_i (gLen_str (by first | (simp; done) | (simp; omega) | omega)) ?_) | (refine opt_i (gDiv_pos (by first | (simp; done) | (simp; omega) | omega) (by first | (simp; done) | (simp; omega) | omega)) ?_) | (refine opt_i (gMd_pos (by first | (simp; done) | (simp; omega) | omega)) ?_)))); (conv => whnf)
          refine opt_i (gEq_strs fun a ha => ?_) k
          obtain ⟨x, hx, rfl⟩ := List.mem_map.mp ha
          exact (ok.names x hx).ok
end
end K22
end
section
set_option maxHeartbeats 1000000
namespace K22
open PySem DL L2
theorem comp_dic {wg : WG} {wk wv : WE} {vs : List Nat} {ρ : Sl} {n : Nat} {Q : List Key → List D → Sl → Nat → Prop} (fk : D → Key) (fv : D → D) : ∀ (ds : List D) (ks : List Key) (acc : List D),
    (∀ d ∈ ds, ∀ R : D → D → Sl → Nat → Prop, (∀ y ρ', keyD y = some (fk d) → noOwn ρ' vs = true → wipeS ρ' vs = ρ → R y (fv d) ρ' n) → wg d ρ n fun ρ1 n1 => wk ρ1 n1 fun y ρ3 n3 => wv ρ3 n3 fun z ρ4 n4 => R y z ρ4 n4) →
    (ks ++ ds.map fk).Nodup → ks.length + ds.length ≤ 100000 → Q (ks ++ ds.map fk) (acc ++ ds.map fv) ρ n → compDW wg vYes wk wv vs ds ks acc ρ n Q
  | [], ks, acc, _, _, _, h => by simpa [compDW] using h
  | d :: ds, ks, acc, hs, hn, hl, h => by
    show wg d ρ n fun ρ1 n1 => wk ρ1 n1 fun y ρ3 n3 => wv ρ3 n3 fun z ρ4 n4 => ∃ k, keyD y = some k ∧ k ∉ ks ∧ ks.length < 100000 ∧ noOwn ρ4 vs = true ∧ compDW wg vYes wk wv vs ds (ks ++ [k]) (acc ++ [z]) (wipeS ρ4 vs) n4 Q
    refine hs d List.mem_cons_self (fun y z ρ4 n4 => ∃ k, keyD y = some k ∧ k ∉ ks ∧ ks.length < 100000 ∧ noOwn ρ4 vs = true ∧ compDW wg vYes wk wv vs ds (ks ++ [k]) (acc ++ [z]) (wipeS ρ4 vs) n4 Q) fun y ρ' hy h1 h2 => ⟨fk d, hy, ?_, by simp at hl; omega, h1, ?_⟩
    · intro z
      rw [List.map_cons, List.nodup_append] at hn
      exact hn.2.2 _ z _ List.mem_cons_self rfl
    · rw [h2]
      refine comp_dic fk fv ds (ks ++ [fk d]) (acc ++ [fv d]) (fun d' hd => hs d' (List.mem_cons_of_mem _ hd)) ?_ (by simp at hl ⊢; omega) ?_
      · simpa using hn
      · simpa using h
def spotD (r : Row) : D := .tup [.int r.2.1, layD r.2.2]
def keyR (r : Row) : Key := .inr r.1
theorem all2_map {α β : Type} (f : α → β) : ∀ l : List α, All2 (fun a b => b = f a) l (l.map f)
  | [] => trivial
  | a :: l => ⟨rfl, all2_map f l⟩
theorem all2_eq {α β : Type} {f : α → β} : ∀ {l : List α} {m : List β}, All2 (fun a b => b = f a) l m → m = l.map f
  | [], [], _ => rfl
  | [], _ :: _, h => h.elim
  | _ :: _, [], h => h.elim
  | a :: l, b :: m, h => by rw [h.1, all2_eq h.2, List.map_cons]
theorem perm_map_inv {α β : Type} {f : α → β} {l : List α} {m : List β} (h : m.Perm (l.map f)) : ∃ l' : List α, l'.Perm l ∧ m = l'.map f := by
  obtain ⟨es, p, a⟩ := (all2_map f l).perm h
  exact ⟨es, p, all2_eq a⟩
theorem names_rows (rs : List Row) : (rs.map rowD).map nameD = (rs.map (·.1)).map some := by
  rw [List.map_map, List.map_map]
  rfl
def fKey : D → Key
  | .tup (.str s :: _) => .inr s
  | _ => .inl 0
def fSpot : D → D
  | .tup [_, b, c] => .tup [b, c]
  | _ => .non
theorem keys_rows (rs : List Row) : (rs.map rowD).map fKey = rs.map keyR := by
  rw [List.map_map]
  rfl
theorem spots_rows (rs : List Row) : (rs.map rowD).map fSpot = rs.map spotD := by
  rw [List.map_map]
  rfl
theorem keys_nodup {rs : List Row} (h : (rs.map (·.1)).Nodup) : (rs.map keyR).Nodup := by
  have e : rs.map keyR = (rs.map (·.1)).map Sum.inr := by
    rw [List.map_map]
    rfl
  rw [e]
  exact List.Pairwise.map _ (fun a b hab z => hab (Sum.inr.inj z)) h
theorem find_spot : ∀ {ss : List Row} {r : Row}, (ss.map (·.1)).Nodup → r ∈ ss → findD (.inr r.1) (ss.map keyR) (ss.map spotD) = some (spotD r)
  | [], _, _, h => absurd h (by simp)
  | s :: ss, r, nd, h => by
    rw [List.map_cons, List.nodup_cons] at nd
    show (if (Sum.inr s.1 : Key) = .inr r.1 then some (spotD s) else findD (.inr r.1) (ss.map keyR) (ss.map spotD)) = _
    rcases List.mem_cons.mp h with e | h
    · subst e
      rw [if_pos rfl]
    · rw [if_neg, find_spot nd.2 h]
      intro z
      exact nd.1 (by rw [Sum.inr.inj z]; exact List.mem_map.mpr ⟨r, h, rfl⟩)
theorem uniq_name : ∀ {rs : List Row} {x y : Row}, (rs.map (·.1)).Nodup → x ∈ rs → y ∈ rs → x.1 = y.1 → x = y
  | [], _, _, _, h, _, _ => absurd h (by simp)
  | a :: rs, x, y, nd, hx, hy, e => by
    rw [List.map_cons, List.nodup_cons] at nd
    rcases List.mem_cons.mp hx with h1 | h1
    · rcases List.mem_cons.mp hy with h2 | h2
      · rw [h1, h2]
      · exact absurd (List.mem_map.mpr ⟨y, h2, by rw [← e, h1]⟩) nd.1
    · rcases List.mem_cons.mp hy with h2 | h2
      · exact absurd (List.mem_map.mpr ⟨x, h1, by rw [e, h2]⟩) nd.1
      · exact uniq_name nd.2 h1 h2 e
theorem perm_eq {l m : List Row} (p : l.Perm m) (e : l.map (·.1) = m.map (·.1)) (nd : (m.map (·.1)).Nodup) : l = m := by
  refine List.ext_getElem p.length_eq fun i h1 h2 => ?_
  have e1 : (l.map (·.1))[i]'(by simpa using h1) = (m.map (·.1))[i]'(by simpa using h2) := by
    simp only [e]
  rw [List.getElem_map, List.getElem_map] at e1
  exact uniq_name nd (p.mem_iff.mp (List.getElem_mem h1)) (List.getElem_mem h2) e1
/-- a placement: its program, its rows ascending -/
structure PlG (as : Arr) (lo ou wr : D) (rs : List Row) (x : D) : Prop where
  ex : ∃ sp, x = .obj "Placement" ["program", "places", "spots"] [progG as lo ou wr, .tup (rs.map rowD), sp]
section
variable {n : Nat} {q : D → Nat → Prop} {r : RXF} {as : Arr} {lo ou wr : D} {rs rs0 : List Row}
theorem s_Placement (ok : ArrOk as) (p0 : rs0.Perm rs) (nm0 : rs.map (·.1) = as.map (·.1)) (rok : RowsOk as rs) (k : ∀ x, PlG as lo ou wr rs x → q x n) : wI_Placement___init__ [progG as lo ou wr, .tup (rs0.map rowD)] n q r := by
  have rok0 : RowsOk as rs0 := ⟨fun r hr => rok.each r (p0.mem_iff.mp hr), (p0.map _).trans rok.perm⟩
  have hl := rok0.len
  have h2 := ok.hi
  have nd := rok0.nodup ok
  unfold wI_Placement___init__
  (try simp only [slots0, wipeS, backS, List.map_cons, List.map_nil, List.replicate, List.set_cons_zero, List.set_cons_succ, List.getElem?_cons_zero, List.getElem?_cons_succ, List.cons_append, List.nil_append]); (repeat ((conv => whnf); (first | (refine And.intro (by first | rfl | exact Nat.le_of_ble_eq_true rfl | decide | omega | (simp; done) | (simp; omega)) ?_) | (refine rec_t (by first | (simp; done) | (simp; omega) | omega) (fun _ => ?_)) | (refine rec_f (by first | (simp; done) | (simp; omega) | omega) (fun _ => ?_)) | (refine opt_i (gLen_str (by first | (simp; done) | (simp; omega) | omega)) ?_) | (refine opt_i (gDiv_pos (by first | (simp; done) | (simp; omega) | omega) (by first | (simp; done) | (simp; omega) | omega)) ?_) | (refine opt_i (gMd_pos (by first | (simp; done) | (simp; omega) | omega)) ?_)))); (conv => whnf)
  apply s_are_places ok rok0
  (try simp only [slots0, wipeS, backS, List.map_cons, List.map_nil, List.replicate, List.set_cons_zero, List.set_cons_succ, List.getElem?_cons_zero, List.getElem?_cons_succ, List.cons_append, List.nil_append]); (repeat ((conv => whnf); (first | (refine And.intro (by first | rfl | exact Nat.le_of_ble_eq_true rfl | decide | omega | (simp; done) | (simp; omega)) ?_) | (refine rec_t (by first | (simp; done) | (simp; omega) | omega) (fun _ => ?_)) | (refine rec_f (by first | (simp; done) | (simp; omega) | omega) (fun _ => ?_)) | (refine opt_i (gLen_str (by first | (simp; done) | (simp; omega) | omega)) ?_) | (refine opt_i (gDiv_pos (by first | (simp; done) | (simp; omega) | omega) (by first | (simp; done) | (simp; omega) | omega)) ?_) | (refine opt_i (gMd_pos (by first | (simp; done) | (simp; omega) | omega)) ?_)))); (conv => whnf)
  refine ⟨rs0.map rowD, rs0.map (·.1), rfl, names_rows rs0, nd, fun es ms hp hn hs => ?_⟩
  obtain ⟨rs', p', rfl⟩ := perm_map_inv hp
  have em : rs'.map (·.1) = ms := by
    rw [names_rows] at hn
    exact (List.map_inj_right fun _ _ e => Option.some.inj e).mp hn
  have e1 : rs'.map (·.1) = as.map (·.1) := by
    rw [em]
    refine sorted_eq ?_ hs ok.asc
    rw [← em]
    exact ((p'.map _).trans rok0.perm)
  obtain rfl : rs' = rs := perm_eq (p'.trans p0) (e1.trans nm0.symm) (nm0 ▸ ok.nodup)
  (try simp only [slots0, wipeS, backS, List.map_cons, List.map_nil, List.replicate, List.set_cons_zero, List.set_cons_succ, List.getElem?_cons_zero, List.getElem?_cons_succ, List.cons_append, List.nil_append]); (repeat ((conv => whnf); (first | (refine And.intro (by first | rfl | exact Nat.le_of_ble_eq_true rfl | decide | omega | (simp; done) | (simp; omega)) ?_) | (refine rec_t (by first | (simp; done) | (simp; omega) | omega) (fun _ => ?_)) | (refine rec_f (by first | (simp; done) | (simp; omega) | omega) (fun _ => ?_)) | (refine opt_i (gLen_str (by first | (simp; done) | (simp; omega) | omega)) ?_) | (refine opt_i (gDiv_pos (by first | (simp; done) | (simp; omega) | omega) (by first | (simp; done) | (simp; omega) | omega)) ?_) | (refine opt_i (gMd_pos (by first | (simp; done) | (simp; omega) | omega)) ?_)))); (conv => whnf)
  refine comp_dic fKey fSpot _ _ _ (fun e he R hR => ?_) ?_ (by simp; omega) ?_
  · obtain ⟨r, hr, rfl⟩ := List.mem_map.mp he
    (try simp only [slots0, wipeS, backS, List.map_cons, List.map_nil, List.replicate, List.set_cons_zero, List.set_cons_succ, List.getElem?_cons_zero, List.getElem?_cons_succ, List.cons_append, List.nil_append]); (repeat ((conv => whnf); (first | (refine And.intro (by first | rfl | exact Nat.le_of_ble_eq_true rfl | decide | omega | (simp; done) | (simp; omega)) ?_) | (refine rec_t (by first | (simp; done) | (simp; omega) | omega) (fun _ => ?_)) | (refine rec_f (by first | (simp; done) | (simp; omega) | omega) (fun _ => ?_)) | (refine opt_i (gLen_str (by first | (simp; done) | (simp; omega) | omega)) ?_) | (refine opt_i (gDiv_pos (by first | (simp; done) | (simp; omega) | omega) (by first | (simp; done) | (simp; omega) | omega)) ?_) | (refine opt_i (gMd_pos (by first | (simp; done) | (simp; omega) | omega)) ?_)))); (conv => whnf)
    exact hR _ _ rfl (by rfl) (by rfl)
  · rw [List.nil_append, keys_rows]
    exact keys_nodup nd
  · rw [List.nil_append, List.nil_append, keys_rows, spots_rows]
    (try simp only [slots0, wipeS, backS, List.map_cons, List.map_nil, List.replicate, List.set_cons_zero, List.set_cons_succ, List.getElem?_cons_zero, List.getElem?_cons_succ, List.cons_append, List.nil_append]); (repeat ((conv => whnf); (first | (refine And.intro (by first | rfl | exact Nat.le_of_ble_eq_true rfl | decide | omega | (simp; done) | (simp; omega)) ?_) | (refine rec_t (by first | (simp; done) | (simp; omega) | omega) (fun _ => ?_)) | (refine rec_f (by first | (simp; done) | (simp; omega) | omega) (fun _ => ?_)) | (refine opt_i (gLen_str (by first | (simp; done) | (simp; omega) | omega)) ?_) | (refine opt_i (gDiv_pos (by first | (simp; done) | (simp; omega) | omega) (by first | (simp; done) | (simp; omega) | omega)) ?_) | (refine opt_i (gMd_pos (by first | (simp; done) | (simp; omega) | omega)) ?_)))); (conv => whnf)
    exact ⟨_, .inr rfl, k _ ⟨_, rfl⟩⟩
end
end K22
end
section
set_option maxHeartbeats 1000000
namespace K22
open PySem DL L2
section
variable {n : Nat} {q : D → Nat → Prop}
theorem s_draw {m : Int} (h1 : 0 < m) (h2 : m < 2 ^ 64) (hn : n < 1000000) (k : ∀ j : Int, 0 ≤ j → j < m → q (.int j) (n + 1)) : w__law_draw [.ext 0, .int m] n q := by
  unfold w__law_draw
  exact ⟨m, rfl, h1, h2, hn, k⟩
theorem atI_in {α : Type} {xs : List α} {j : Int} (h1 : 0 ≤ j) (h2 : j < xs.length) : ∃ x ∈ xs, atI xs j = some x := by
  have hl : j.toNat < xs.length := by omega
  refine ⟨xs[j.toNat], List.getElem_mem hl, ?_⟩
  unfold atI
  have e : ixN xs.length j = some j.toNat := by
    unfold ixN
    rw [if_pos h1, if_pos (by omega)]
  rw [e]
  simp [hl]
theorem s_pick {ds : List D} (h0 : ds ≠ []) (hl : ds.length ≤ 100000) (hn : n < 1000000) (k : ∀ d ∈ ds, q d (n + 1)) : w__law_pick [.ext 0, .lst ds] n q := by
  have h1 : 0 < ds.length := List.length_pos_iff.mpr h0
  unfold w__law_pick
  (try simp only [slots0, wipeS, backS, List.map_cons, List.map_nil, List.replicate, List.set_cons_zero, List.set_cons_succ, List.getElem?_cons_zero, List.getElem?_cons_succ, List.cons_append, List.nil_append]); (repeat ((conv => whnf); (first | (refine And.intro (by first | rfl | exact Nat.le_of_ble_eq_true rfl | decide | omega | (simp; done) | (simp; omega)) ?_) | (refine rec_t (by first | (simp; done) | (simp; omega) | omega) (fun _ => ?_)) | (refine rec_f (by first | (simp; done) | (simp; omega) | omega) (fun _ => ?_)) | (refine opt_i (gLen_str (by first | (simp; done) | (simp; omega) | omega)) ?_) | (refine opt_i (gDiv_pos (by first | (simp; done) | (simp; omega) | omega) (by first | (simp; done) | (simp; omega) | omega)) ?_) | (refine opt_i (gMd_pos (by first | (simp; done) | (simp; omega) | omega)) ?_)))); (conv => whnf)
  apply s_draw (by omega) (by omega) hn
  intro j j1 j2
  obtain ⟨x, hx, e⟩ := atI_in j1 j2
  (try simp only [slots0, wipeS, backS, List.map_cons, List.map_nil, List.replicate, List.set_cons_zero, List.set_cons_succ, List.getElem?_cons_zero, List.getElem?_cons_succ, List.cons_append, List.nil_append]); (repeat ((conv => whnf); (first | (refine And.intro (by first | rfl | exact Nat.le_of_ble_eq_true rfl | decide | omega | (simp; done) | (simp; omega)) ?_) | (refine rec_t (by first | (simp; done) | (simp; omega) | omega) (fun _ => ?_)) | (refine rec_f (by first | (simp; done) | (simp; omega) | omega) (fun _ => ?_)) | (refine opt_i (gLen_str (by first | (simp; done) | (simp; omega) | omega)) ?_) | (refine opt_i (gDiv_pos (by first | (simp; done) | (simp; omega) | omega) (by first | (simp; done) | (simp; omega) | omega)) ?_) | (refine opt_i (gMd_pos (by first | (simp; done) | (simp; omega) | omega)) ?_)))); (conv => whnf)
  exact opt_i e (k x hx)
theorem s_pickT {ds : List D} (h0 : ds ≠ []) (hl : ds.length ≤ 100000) (hn : n < 1000000) (k : ∀ d ∈ ds, q d (n + 1)) : w__law_pick [.ext 0, .tup ds] n q := by
  have h1 : 0 < ds.length := List.length_pos_iff.mpr h0
  unfold w__law_pick
  (try simp only [slots0, wipeS, backS, List.map_cons, List.map_nil, List.replicate, List.set_cons_zero, List.set_cons_succ, List.getElem?_cons_zero, List.getElem?_cons_succ, List.cons_append, List.nil_append]); (repeat ((conv => whnf); (first | (refine And.intro (by first | rfl | exact Nat.le_of_ble_eq_true rfl | decide | omega | (simp; done) | (simp; omega)) ?_) | (refine rec_t (by first | (simp; done) | (simp; omega) | omega) (fun _ => ?_)) | (refine rec_f (by first | (simp; done) | (simp; omega) | omega) (fun _ => ?_)) | (refine opt_i (gLen_str (by first | (simp; done) | (simp; omega) | omega)) ?_) | (refine opt_i (gDiv_pos (by first | (simp; done) | (simp; omega) | omega) (by first | (simp; done) | (simp; omega) | omega)) ?_) | (refine opt_i (gMd_pos (by first | (simp; done) | (simp; omega) | omega)) ?_)))); (conv => whnf)
  apply s_draw (by omega) (by omega) hn
  intro j j1 j2
  obtain ⟨x, hx, e⟩ := atI_in j1 j2
  (try simp only [slots0, wipeS, backS, List.map_cons, List.map_nil, List.replicate, List.set_cons_zero, List.set_cons_succ, List.getElem?_cons_zero, List.getElem?_cons_succ, List.cons_append, List.nil_append]); (repeat ((conv => whnf); (first | (refine And.intro (by first | rfl | exact Nat.le_of_ble_eq_true rfl | decide | omega | (simp; done) | (simp; omega)) ?_) | (refine rec_t (by first | (simp; done) | (simp; omega) | omega) (fun _ => ?_)) | (refine rec_f (by first | (simp; done) | (simp; omega) | omega) (fun _ => ?_)) | (refine opt_i (gLen_str (by first | (simp; done) | (simp; omega) | omega)) ?_) | (refine opt_i (gDiv_pos (by first | (simp; done) | (simp; omega) | omega) (by first | (simp; done) | (simp; omega) | omega)) ?_) | (refine opt_i (gMd_pos (by first | (simp; done) | (simp; omega) | omega)) ?_)))); (conv => whnf)
  exact opt_i e (k x hx)
theorem s_pickL (hn : n < 1000000) (k : ∀ c ∈ letters.cps.toList, q (.str ⟨#[c]⟩) (n + 1)) : w__law_pick [.ext 0, .str letters] n q := by
  have hl : letters.length = 52 := by decide +kernel
  have hl2 : letters.cps.toList.length = 52 := by decide +kernel
  unfold w__law_pick
  simp only [slots0, List.map_cons, List.map_nil, List.replicate, List.cons_append, List.nil_append]
  (conv => whnf)
  refine And.intro rfl ?_
  apply s_draw (by omega) (by omega) hn
  intro j j1 j2
  obtain ⟨x, hx, e⟩ := atI_in (xs := letters.cps.toList) j1 (by omega)
  have e2 : gIx (.str letters) (.int j) = some (.str ⟨#[x]⟩) := by
    show (if letters.length ≤ 100000 then (atI letters.cps.toList j).map fun c => D.str ⟨#[c]⟩ else none) = _
    rw [if_pos (by omega), e]
    rfl
  exact opt_i e2 (k x hx)
theorem s_size (hn : n < 900000) (k : ∀ z : Int, 1 ≤ z → z ≤ 1000000000000000000 → ∀ n', n ≤ n' → n' ≤ n + 3 → q (.int z) n') : w__law_size [.ext 0] n q := by
  unfold w__law_size
  (try simp only [slots0, wipeS, backS, List.map_cons, List.map_nil, List.replicate, List.set_cons_zero, List.set_cons_succ, List.getElem?_cons_zero, List.getElem?_cons_succ, List.cons_append, List.nil_append]); (repeat ((conv => whnf); (first | (refine And.intro (by first | rfl | exact Nat.le_of_ble_eq_true rfl | decide | omega | (simp; done) | (simp; omega)) ?_) | (refine rec_t (by first | (simp; done) | (simp; omega) | omega) (fun _ => ?_)) | (refine rec_f (by first | (simp; done) | (simp; omega) | omega) (fun _ => ?_)) | (refine opt_i (gLen_str (by first | (simp; done) | (simp; omega) | omega)) ?_) | (refine opt_i (gDiv_pos (by first | (simp; done) | (simp; omega) | omega) (by first | (simp; done) | (simp; omega) | omega)) ?_) | (refine opt_i (gMd_pos (by first | (simp; done) | (simp; omega) | omega)) ?_)))); (conv => whnf)
  apply s_draw (by decide) (by decide) (by omega)
  intro a a1 a2
  (try simp only [slots0, wipeS, backS, List.map_cons, List.map_nil, List.replicate, List.set_cons_zero, List.set_cons_succ, List.getElem?_cons_zero, List.getElem?_cons_succ, List.cons_append, List.nil_append]); (repeat ((conv => whnf); (first | (refine And.intro (by first | rfl | exact Nat.le_of_ble_eq_true rfl | decide | omega | (simp; done) | (simp; omega)) ?_) | (refine rec_t (by first | (simp; done) | (simp; omega) | omega) (fun _ => ?_)) | (refine rec_f (by first | (simp; done) | (simp; omega) | omega) (fun _ => ?_)) | (refine opt_i (gLen_str (by first | (simp; done) | (simp; omega) | omega)) ?_) | (refine opt_i (gDiv_pos (by first | (simp; done) | (simp; omega) | omega) (by first | (simp; done) | (simp; omega) | omega)) ?_) | (refine opt_i (gMd_pos (by first | (simp; done) | (simp; omega) | omega)) ?_)))); (conv => whnf)
  apply s_draw (by decide) (by decide) (by omega)
  intro b b1 b2
  (try simp only [slots0, wipeS, backS, List.map_cons, List.map_nil, List.replicate, List.set_cons_zero, List.set_cons_succ, List.getElem?_cons_zero, List.getElem?_cons_succ, List.cons_append, List.nil_append]); (repeat ((conv => whnf); (first | (refine And.intro (by first | rfl | exact Nat.le_of_ble_eq_true rfl | decide | omega | (simp; done) | (simp; omega)) ?_) | (refine rec_t (by first | (simp; done) | (simp; omega) | omega) (fun _ => ?_)) | (refine rec_f (by first | (simp; done) | (simp; omega) | omega) (fun _ => ?_)) | (refine opt_i (gLen_str (by first | (simp; done) | (simp; omega) | omega)) ?_) | (refine opt_i (gDiv_pos (by first | (simp; done) | (simp; omega) | omega) (by first | (simp; done) | (simp; omega) | omega)) ?_) | (refine opt_i (gMd_pos (by first | (simp; done) | (simp; omega) | omega)) ?_)))); (conv => whnf)
  apply s_pick (by simp) (by simp) (by omega)
  intro x hx
  simp at hx
  rcases hx with rfl | rfl | rfl | rfl | rfl | rfl | rfl | rfl | rfl <;> exact k _ (by omega) (by omega) _ (by omega) (by omega)
theorem s_great (hn : n < 900000) (k : ∀ z : Int, 0 ≤ z → z < 10000000000000000000000000000000 → ∀ n', n ≤ n' → n' ≤ n + 5 → q (.int z) n') : w__law_great [.ext 0] n q := by
  unfold w__law_great
  (try simp only [slots0, wipeS, backS, List.map_cons, List.map_nil, List.replicate, List.set_cons_zero, List.set_cons_succ, List.getElem?_cons_zero, List.getElem?_cons_succ, List.cons_append, List.nil_append]); (repeat ((conv => whnf); (first | (refine And.intro (by first | rfl | exact Nat.le_of_ble_eq_true rfl | decide | omega | (simp; done) | (simp; omega)) ?_) | (refine rec_t (by first | (simp; done) | (simp; omega) | omega) (fun _ => ?_)) | (refine rec_f (by first | (simp; done) | (simp; omega) | omega) (fun _ => ?_)) | (refine opt_i (gLen_str (by first | (simp; done) | (simp; omega) | omega)) ?_) | (refine opt_i (gDiv_pos (by first | (simp; done) | (simp; omega) | omega) (by first | (simp; done) | (simp; omega) | omega)) ?_) | (refine opt_i (gMd_pos (by first | (simp; done) | (simp; omega) | omega)) ?_)))); (conv => whnf)
  apply s_draw (by decide) (by decide) (by omega)
  intro a a1 a2
  (try simp only [slots0, wipeS, backS, List.map_cons, List.map_nil, List.replicate, List.set_cons_zero, List.set_cons_succ, List.getElem?_cons_zero, List.getElem?_cons_succ, List.cons_append, List.nil_append]); (repeat ((conv => whnf); (first | (refine And.intro (by first | rfl | exact Nat.le_of_ble_eq_true rfl | decide | omega | (simp; done) | (simp; omega)) ?_) | (refine rec_t (by first | (simp; done) | (simp; omega) | omega) (fun _ => ?_)) | (refine rec_f (by first | (simp; done) | (simp; omega) | omega) (fun _ => ?_)) | (refine opt_i (gLen_str (by first | (simp; done) | (simp; omega) | omega)) ?_) | (refine opt_i (gDiv_pos (by first | (simp; done) | (simp; omega) | omega) (by first | (simp; done) | (simp; omega) | omega)) ?_) | (refine opt_i (gMd_pos (by first | (simp; done) | (simp; omega) | omega)) ?_)))); (conv => whnf)
  apply s_draw (by decide) (by decide) (by omega)
  intro b b1 b2
  (try simp only [slots0, wipeS, backS, List.map_cons, List.map_nil, List.replicate, List.set_cons_zero, List.set_cons_succ, List.getElem?_cons_zero, List.getElem?_cons_succ, List.cons_append, List.nil_append]); (repeat ((conv => whnf); (first | (refine And.intro (by first | rfl | exact Nat.le_of_ble_eq_true rfl | decide | omega | (simp; done) | (simp; omega)) ?_) | (refine rec_t (by first | (simp; done) | (simp; omega) | omega) (fun _ => ?_)) | (refine rec_f (by first | (simp; done) | (simp; omega) | omega) (fun _ => ?_)) | (refine opt_i (gLen_str (by first | (simp; done) | (simp; omega) | omega)) ?_) | (refine opt_i (gDiv_pos (by first | (simp; done) | (simp; omega) | omega) (by first | (simp; done) | (simp; omega) | omega)) ?_) | (refine opt_i (gMd_pos (by first | (simp; done) | (simp; omega) | omega)) ?_)))); (conv => whnf)
  apply s_draw (by decide) (by decide) (by omega)
  intro c c1 c2
  (try simp only [slots0, wipeS, backS, List.map_cons, List.map_nil, List.replicate, List.set_cons_zero, List.set_cons_succ, List.getElem?_cons_zero, List.getElem?_cons_succ, List.cons_append, List.nil_append]); (repeat ((conv => whnf); (first | (refine And.intro (by first | rfl | exact Nat.le_of_ble_eq_true rfl | decide | omega | (simp; done) | (simp; omega)) ?_) | (refine rec_t (by first | (simp; done) | (simp; omega) | omega) (fun _ => ?_)) | (refine rec_f (by first | (simp; done) | (simp; omega) | omega) (fun _ => ?_)) | (refine opt_i (gLen_str (by first | (simp; done) | (simp; omega) | omega)) ?_) | (refine opt_i (gDiv_pos (by first | (simp; done) | (simp; omega) | omega) (by first | (simp; done) | (simp; omega) | omega)) ?_) | (refine opt_i (gMd_pos (by first | (simp; done) | (simp; omega) | omega)) ?_)))); (conv => whnf)
  apply s_draw (by decide) (by decide) (by omega)
  intro e e1 e2
  (try simp only [slots0, wipeS, backS, List.map_cons, List.map_nil, List.replicate, List.set_cons_zero, List.set_cons_succ, List.getElem?_cons_zero, List.getElem?_cons_succ, List.cons_append, List.nil_append]); (repeat ((conv => whnf); (first | (refine And.intro (by first | rfl | exact Nat.le_of_ble_eq_true rfl | decide | omega | (simp; done) | (simp; omega)) ?_) | (refine rec_t (by first | (simp; done) | (simp; omega) | omega) (fun _ => ?_)) | (refine rec_f (by first | (simp; done) | (simp; omega) | omega) (fun _ => ?_)) | (refine opt_i (gLen_str (by first | (simp; done) | (simp; omega) | omega)) ?_) | (refine opt_i (gDiv_pos (by first | (simp; done) | (simp; omega) | omega) (by first | (simp; done) | (simp; omega) | omega)) ?_) | (refine opt_i (gMd_pos (by first | (simp; done) | (simp; omega) | omega)) ?_)))); (conv => whnf)
  refine opt_i (gMul_l (by omega) (by omega)) ?_
  (try simp only [slots0, wipeS, backS, List.map_cons, List.map_nil, List.replicate, List.set_cons_zero, List.set_cons_succ, List.getElem?_cons_zero, List.getElem?_cons_succ, List.cons_append, List.nil_append]); (repeat ((conv => whnf); (first | (refine And.intro (by first | rfl | exact Nat.le_of_ble_eq_true rfl | decide | omega | (simp; done) | (simp; omega)) ?_) | (refine rec_t (by first | (simp; done) | (simp; omega) | omega) (fun _ => ?_)) | (refine rec_f (by first | (simp; done) | (simp; omega) | omega) (fun _ => ?_)) | (refine opt_i (gLen_str (by first | (simp; done) | (simp; omega) | omega)) ?_) | (refine opt_i (gDiv_pos (by first | (simp; done) | (simp; omega) | omega) (by first | (simp; done) | (simp; omega) | omega)) ?_) | (refine opt_i (gMd_pos (by first | (simp; done) | (simp; omega) | omega)) ?_)))); (conv => whnf)
  apply s_pick (by simp) (by simp) (by omega)
  intro x hx
  simp at hx
  rcases hx with rfl | rfl | rfl | rfl | rfl | rfl | rfl | rfl
  all_goals exact k _ (by omega) (by omega) _ (by omega) (by omega)
end
def wordList : List Str := ["A", "a", "AB", "aB", "up", "down", "ring", "zz", "zzzzzzzz", "loop", "i", "B", "arrays"]
theorem split_words : Txt.split "A a AB aB up down ring zz zzzzzzzz loop i B arrays" " " = wordList := by decide +kernel
def nameOkB (s : Str) : Bool := decide (1 ≤ s.length) && decide (s.length ≤ 8) && s.cps.toList.all fun c => decide (c ∈ letters.cps.toList)
theorem nameOkB_ok {s : Str} (h : nameOkB s = true) : NameOk s := by
  unfold nameOkB at h
  simp only [Bool.and_eq_true, decide_eq_true_eq, List.all_eq_true] at h
  exact ⟨h.1.1, h.1.2, h.2⟩
theorem words_ok : wordList.all nameOkB = true := by decide +kernel
theorem words_nodup : wordList.Nodup := by decide +kernel
theorem index_nodup : ∀ f < 13, ∀ s < 12, ((List.range 6).map fun k => (f + (s + 1) * k) % 13).Nodup := by decide +kernel
theorem index_nodup2 : ∀ f < 52, ∀ s ∈ [1, 3, 5, 7, 9, 11, 17, 25], ((List.range 6).map fun k => (f + s * k) % 52).Nodup := by decide +kernel
theorem letters_nodup : letters.cps.toList.Nodup := by decide +kernel
theorem letters_len : letters.cps.toList.length = 52 := by decide +kernel
structure NamesOk (l : List Str) : Prop where
  len : l.length = 6
  nd : l.Nodup
  all : ∀ s ∈ l, NameOk s
theorem range_mem {lo : Int} {m : Nat} {d : D} (h : d ∈ rangeD lo m) : ∃ i : Nat, i < m ∧ d = .int (lo + i) := by
  unfold rangeD at h
  obtain ⟨i, hi, rfl⟩ := List.mem_map.mp h
  exact ⟨i, List.mem_range.mp hi, rfl⟩
@[simp] theorem eqv_int (a b : Int) : PyData.eqv (.int a) (.int b) = decide (a = b) := rfl
theorem atI_get {α : Type} {xs : List α} {j : Int} (dflt : α) (h1 : 0 ≤ j) (h2 : j < xs.length) : atI xs j = some (xs.getD j.toNat dflt) := by
  have hl : j.toNat < xs.length := by omega
  unfold atI
  have e : ixN xs.length j = some j.toNat := by
    unfold ixN
    rw [if_pos h1, if_pos (by omega)]
  rw [e]
  simp [hl]
theorem getD_map {α β : Type} (f : α → β) (xs : List α) (i : Nat) (d : α) : (xs.map f).getD i (f d) = f (xs.getD i d) := by
  simp [List.getD, Option.getD_map]
theorem getD_at {α : Type} {l : List α} {i : Nat} {d : α} (h : i < l.length) : l.getD i d = l[i] := by simp [List.getD, h]
theorem nodup_getD {α : Type} {l : List α} {d : α} (h : l.Nodup) : ∀ {is : List Nat}, is.Nodup → (∀ i ∈ is, i < l.length) → (is.map fun i => l.getD i d).Nodup
  | [], _, _ => List.nodup_nil
  | i :: is, hn, hl => by
    rw [List.map_cons, List.nodup_cons]
    rw [List.nodup_cons] at hn
    refine ⟨fun z => ?_, nodup_getD h hn.2 fun j hj => hl j (List.mem_cons_of_mem _ hj)⟩
    obtain ⟨j, hj, e⟩ := List.mem_map.mp z
    have h1 := hl i List.mem_cons_self
    have h2 := hl j (List.mem_cons_of_mem _ hj)
    rw [getD_at h1, getD_at h2] at e
    have ij : j = i := by
      rcases Nat.lt_trichotomy j i with z | z | z
      · exact absurd e (List.pairwise_iff_getElem.mp h _ _ h2 h1 z)
      · exact z
      · exact absurd e.symm (List.pairwise_iff_getElem.mp h _ _ h1 h2 z)
    exact hn.1 (ij ▸ hj)
/-- the words at f, f + s, f + 2 s .. -/
def wordAt (f s : Nat) (k : Nat) : Str := wordList.getD ((f + s * k) % 13) Str.empty
def fWord (f s : Nat) : D → D
  | .int j => .str (wordAt f s j.toNat)
  | _ => .non
theorem map_range {lo : Int} {m : Nat} (g : D → D) : (rangeD lo m).map g = (List.range m).map fun (i : Nat) => g (.int (lo + i)) := by
  unfold rangeD
  rw [List.map_map]
  rfl
theorem wordsOk (f s : Nat) (hf : f < 13) (hs : s < 12) : NamesOk ((List.range 6).map (wordAt f (s + 1))) := by
  refine ⟨by simp, ?_, fun x hx => ?_⟩
  · have e : (List.range 6).map (wordAt f (s + 1)) = ((List.range 6).map fun k => (f + (s + 1) * k) % 13).map fun i => wordList.getD i Str.empty := by
      rw [List.map_map]
      rfl
    rw [e]
    refine nodup_getD words_nodup (index_nodup f hf s hs) fun i hi => ?_
    obtain ⟨k, _, rfl⟩ := List.mem_map.mp hi
    exact Nat.mod_lt _ (by decide)
  · obtain ⟨k, _, rfl⟩ := List.mem_map.mp hx
    have hl : (f + (s + 1) * k) % 13 < wordList.length := Nat.mod_lt _ (by decide)
    unfold wordAt
    rw [getD_at hl]
    exact nameOkB_ok (List.all_eq_true.mp words_ok _ (List.getElem_mem hl))
theorem foldl_cat : ∀ (l : List Str) (acc : Array Nat), (l.foldl (fun acc p => acc ++ Str.cps "" ++ p.cps) acc).toList = acc.toList ++ (l.map (·.cps.toList)).flatten
  | [], acc => by simp
  | p :: l, acc => by
    have e : (Str.cps "").toList = [] := by decide +kernel
    rw [List.foldl_cons, foldl_cat l]
    simp [e]
theorem join0 (l : List Str) : (Txt.join "" l).cps.toList = (l.map (·.cps.toList)).flatten := by
  cases l with
  | nil => decide +kernel
  | cons p l =>
    show (l.foldl (fun acc p => acc ++ Str.cps "" ++ p.cps) p.cps).toList = _
    rw [foldl_cat]
    simp
/-- a text of these signs -/
def sg (c : Nat) : Str := ⟨#[c]⟩
theorem join_sg (cs : List Nat) : (Txt.join "" (cs.map sg)).cps.toList = cs := by
  rw [join0, List.map_map]
  induction cs with
  | nil => rfl
  | cons c cs ih => simp [sg] at ih ⊢; exact ih
theorem sum_sg (cs : List Nat) : ((cs.map sg).map (·.length)).sum = cs.length := by
  induction cs with
  | nil => rfl
  | cons c cs ih =>
    rw [List.map_cons, List.map_cons, List.sum_cons, ih]
    show 1 + cs.length = _
    simp
    omega
theorem cat_tl (a b : Str) : (a ++ b).cps.toList = a.cps.toList ++ b.cps.toList := by
  show (a.cps ++ b.cps).toList = _
  simp
def joinS (cs : List Nat) : Str := Txt.join "" (cs.map sg)
theorem joinS_tl (cs : List Nat) : (joinS cs).cps.toList = cs := join_sg cs
theorem len_tl (s : Str) : s.length = s.cps.toList.length := by
  show s.cps.size = _
  simp
theorem joinS_len (cs : List Nat) : (joinS cs).length = cs.length := by rw [len_tl, joinS_tl]
/-- head, a letter, a tail -/
def nameAt (hd : List Nat) (ts : List (List Nat)) (f s : Nat) (k : Nat) : Str := (joinS hd ++ sg (letters.cps.toList.getD ((f + s * k) % 52) 0)) ++ joinS (ts.getD k [])
theorem nameAt_tl (hd : List Nat) (ts : List (List Nat)) (f s k : Nat) : (nameAt hd ts f s k).cps.toList = hd ++ letters.cps.toList.getD ((f + s * k) % 52) 0 :: ts.getD k [] := by
  unfold nameAt
  rw [cat_tl, cat_tl, joinS_tl, joinS_tl]
  show (hd ++ [_]) ++ _ = _
  simp
theorem nameAt_ok {hd : List Nat} {ts : List (List Nat)} {f s : Nat} (h1 : hd.length ≤ 3) (h2 : ∀ c ∈ hd, c ∈ letters.cps.toList) (h3 : ∀ t ∈ ts, t.length ≤ 4 ∧ ∀ c ∈ t, c ∈ letters.cps.toList) (hf : f < 52) (hs : s ∈ [1, 3, 5, 7, 9, 11, 17, 25]) : NamesOk ((List.range 6).map (nameAt hd ts f s)) := by
  have hx : ∀ k, (f + s * k) % 52 < letters.cps.toList.length := fun k => by rw [letters_len]; exact Nat.mod_lt _ (by decide)
  have ht : ∀ k, (ts.getD k []).length ≤ 4 ∧ ∀ c ∈ ts.getD k [], c ∈ letters.cps.toList := fun k => by
    rcases Nat.lt_or_ge k ts.length with z | z
    · rw [getD_at z]
      exact h3 _ (List.getElem_mem z)
    · have e : ts.getD k [] = [] := by simp [List.getD, z]
      rw [e]
      exact ⟨by simp, by simp⟩
  refine ⟨by simp, ?_, fun x hm => ?_⟩
  · refine List.Pairwise.of_map (f := fun x : Str => x.cps.toList.getD hd.length 0) (S := (· ≠ ·)) (fun a b h e => h (by rw [e])) ?_
    rw [List.map_map]
    have e : (List.range 6).map ((fun x : Str => x.cps.toList.getD hd.length 0) ∘ nameAt hd ts f s) = ((List.range 6).map fun k => (f + s * k) % 52).map fun i => letters.cps.toList.getD i 0 := by
      rw [List.map_map]
      refine List.map_congr_left fun k _ => ?_
      show (nameAt hd ts f s k).cps.toList.getD hd.length 0 = _
      rw [nameAt_tl]
      simp [List.getD]
    rw [e]
    refine nodup_getD letters_nodup (index_nodup2 f hf s hs) fun i hi => ?_
    obtain ⟨k, _, rfl⟩ := List.mem_map.mp hi
    exact hx k
  · obtain ⟨k, _, rfl⟩ := List.mem_map.mp hm
    have hl : (nameAt hd ts f s k).length = hd.length + 1 + (ts.getD k []).length := by
      rw [len_tl, nameAt_tl]
      simp
      omega
    have := (ht k).1
    refine ⟨by omega, by omega, fun c hc => ?_⟩
    rw [nameAt_tl] at hc
    rcases List.mem_append.mp hc with hc | hc
    · exact h2 c hc
    · rcases List.mem_cons.mp hc with hc | hc
      · rw [hc, getD_at (hx k)]
        exact List.getElem_mem _
      · exact (ht k).2 c hc
theorem gAdd_str {a b : Str} (h : a.length + b.length ≤ 100000) : gAdd (.str a) (.str b) = some (.str (a ++ b)) := if_pos h
theorem gIx_let {j : Int} (h1 : 0 ≤ j) (h2 : j < 52) : gIx (.str letters) (.int j) = some (.str (sg (letters.cps.toList.getD j.toNat 0))) := by
  have hl : letters.length = 52 := by decide +kernel
  show (if letters.length ≤ 100000 then (atI letters.cps.toList j).map fun c => D.str ⟨#[c]⟩ else none) = _
  rw [if_pos (by omega), atI_get 0 h1 (by rw [letters_len]; exact h2)]
  rfl
def fName (hd : List Nat) (ts : List (List Nat)) (f s : Nat) : D → D
  | .int j => .str (nameAt hd ts f s j.toNat)
  | _ => .non
end K22
end
section
set_option maxHeartbeats 1000000
namespace K22
open PySem DL L2
theorem names_elem {R : WQ} {z F s i : Nat} {f S I : Int} {W : D} {hd : List Nat} {ts : List (List Nat)} (hF : f = F) (hS : (s : Int) = S) (hI : (i : Int) = I) (hs : s ∈ [1, 3, 5, 7, 9, 11, 17, 25]) (hl3 : hd.length ≤ 3) (hts : ∀ t ∈ ts, t.length ≤ 4 ∧ ∀ c ∈ t, c ∈ letters.cps.toList) (hlt6 : ts.length = 6) (hi : i < 6)
    (h : R (.str (nameAt hd ts F s i)) [.val (.ext 0), .val W, .val (.str letters), .val (.str (joinS hd)), .val (.lst (ts.map fun cs => D.str (joinS cs))), .val (.int f), .val (.int S), .val (.int I), .un] z) :
    wOp gAdd (wOp gAdd (wVar 3) (wOp gIx (wVar 2) (wOp gMd (wCB gInt1 (wCons (wOp gAdd (wVar 5) (wOp gMul (wVar 6) (wVar 7))) wNil)) (wC (D.int 52))))) (wOp gIx (wVar 4) (wVar 7))
      [.val (.ext 0), .val W, .val (.str letters), .val (.str (joinS hd)), .val (.lst (ts.map fun cs => D.str (joinS cs))), .val (.int f), .val (.int S), .val (.int I), .un] z R := by
  have hS0 : s < 2 ^ 64 := by
    simp at hs
    omega
  have hI0 : 0 ≤ I := by omega
  have hI6 : I < 6 := by omega
  simp only [wOp_, wCB_, wCons_, wNil_, wVar_, wC_, List.getElem?_cons_succ, List.getElem?_cons_zero]
  refine opt_i (gMul_r (by omega) (by omega)) ?_
  refine opt_i (gAdd_int _ _) ?_
  refine opt_i (d := .int (f + S * I)) rfl ?_
  refine opt_i (gMd_pos (by decide)) ?_
  refine opt_i (gIx_let (Int.emod_nonneg _ (by decide)) (Int.emod_lt_of_pos _ (by decide))) ?_
  refine opt_i (gAdd_str ?_) ?_
  · have e : (sg (letters.cps.toList.getD ((f + S * I) % 52).toNat 0)).length = 1 := rfl
    rw [e, joinS_len]
    omega
  refine opt_i (show gIx (.lst (ts.map fun cs => D.str (joinS cs))) (.int I) = _ from atI_get (.str (joinS [])) hI0 (by simp; omega)) ?_
  have ei : I.toNat = i := by omega
  have e3 : (ts.map (fun cs => D.str (joinS cs))).getD I.toNat (.str (joinS [])) = .str (joinS (ts.getD i [])) := by rw [ei, getD_map (fun cs => D.str (joinS cs)) ts i []]
  rw [e3]
  have htl : (ts.getD i []).length ≤ 4 := by
    rw [getD_at (by omega)]
    exact (hts _ (List.getElem_mem _)).1
  refine opt_i (gAdd_str ?_) ?_
  · rw [joinS_len, len_tl, cat_tl, joinS_tl, List.length_append]
    have e : (sg (letters.cps.toList.getD ((f + S * I) % 52).toNat 0)).cps.toList.length = 1 := rfl
    rw [e]
    omega
  have ej : ((f + S * I) % 52).toNat = (F + s * i) % 52 := by
    have : (f + S * I) % 52 = (((F + s * i) % 52 : Nat) : Int) := by
      rw [hF, ← hS, ← hI]
      norm_cast
    rw [this, Int.toNat_natCast]
  rw [ej]
  exact h
theorem names_fin {Q : List D → Sl → Nat → Prop} {z F s : Nat} {f S : Int} {W : D} {hd : List Nat} {ts : List (List Nat)} (hF : f = F) (hS : (s : Int) = S) (hf : F < 52) (hs : s ∈ [1, 3, 5, 7, 9, 11, 17, 25]) (hl3 : hd.length ≤ 3) (hts : ∀ t ∈ ts, t.length ≤ 4 ∧ ∀ c ∈ t, c ∈ letters.cps.toList) (hlt6 : ts.length = 6)
    (h : Q ((List.range 6).map fun i => D.str (nameAt hd ts F s i)) [.val (.ext 0), .val W, .val (.str letters), .val (.str (joinS hd)), .val (.lst (ts.map fun cs => D.str (joinS cs))), .val (.int f), .val (.int S), .un, .un] z) :
    compW (wName 7) vYes (wOp gAdd (wOp gAdd (wVar 3) (wOp gIx (wVar 2) (wOp gMd (wCB gInt1 (wCons (wOp gAdd (wVar 5) (wOp gMul (wVar 6) (wVar 7))) wNil)) (wC (D.int 52))))) (wOp gIx (wVar 4) (wVar 7))) [7] (rangeD 0 6) []
      [.val (.ext 0), .val W, .val (.str letters), .val (.str (joinS hd)), .val (.lst (ts.map fun cs => D.str (joinS cs))), .val (.int f), .val (.int S), .un, .un] z Q := by
  refine DL.comp_map (fName hd ts F s) _ _ (fun e he R hR => ?_) (by simp [rangeD_len]) ?_
  · obtain ⟨i, hi, rfl⟩ := range_mem he
    obtain ⟨I, hI⟩ : ∃ I : Int, (0 : Int) + (i : Int) = I := ⟨_, rfl⟩
    rw [hI] at hR ⊢
    have hI2 : (i : Int) = I := by omega
    have hI3 : I.toNat = i := by omega
    refine ⟨Nat.le_of_ble_eq_true rfl, names_elem hF hS hI2 hs hl3 hts hlt6 hi ?_⟩
    refine val3 ?_ (hR _ (by rfl) (by rfl))
    show D.str (nameAt hd ts F s i) = D.str (nameAt hd ts F s I.toNat)
    rw [hI3]
  · rw [List.nil_append, map_range]
    have e : (List.range 6).map (fun (i : Nat) => fName hd ts F s (.int (0 + i))) = (List.range 6).map fun i => D.str (nameAt hd ts F s i) := by
      refine List.map_congr_left fun i _ => ?_
      show D.str (nameAt hd ts F s ((0 : Int) + (i : Int)).toNat) = _
      rw [Int.zero_add, Int.toNat_natCast]
    rw [e]
    exact h
section
variable {n : Nat} {q : D → Nat → Prop}
theorem s_names (hn : n < 900000) (k : ∀ l, NamesOk l → ∀ n', n ≤ n' → n' ≤ n + 60 → q (.lst (l.map .str)) n') : w__law_names [.ext 0] n q := by
  unfold w__law_names
  (try simp only [slots0, wipeS, backS, List.map_cons, List.map_nil, List.replicate, List.set_cons_zero, List.set_cons_succ, List.getElem?_cons_zero, List.getElem?_cons_succ, List.cons_append, List.nil_append]); (repeat ((conv => whnf); (first | (refine And.intro (by first | rfl | exact Nat.le_of_ble_eq_true rfl | decide | omega | (simp; done) | (simp; omega)) ?_) | (refine rec_t (by first | (simp; done) | (simp; omega) | omega) (fun _ => ?_)) | (refine rec_f (by first | (simp; done) | (simp; omega) | omega) (fun _ => ?_)) | (refine opt_i (gLen_str (by first | (simp; done) | (simp; omega) | omega)) ?_) | (refine opt_i (gDiv_pos (by first | (simp; done) | (simp; omega) | omega) (by first | (simp; done) | (simp; omega) | omega)) ?_) | (refine opt_i (gMd_pos (by first | (simp; done) | (simp; omega) | omega)) ?_)))); (conv => whnf)
  rw [split_words]
  apply s_draw (by decide) (by decide) (by omega)
  intro a a1 a2
  (try simp only [slots0, wipeS, backS, List.map_cons, List.map_nil, List.replicate, List.set_cons_zero, List.set_cons_succ, List.getElem?_cons_zero, List.getElem?_cons_succ, List.cons_append, List.nil_append]); (repeat ((conv => whnf); (first | (refine And.intro (by first | rfl | exact Nat.le_of_ble_eq_true rfl | decide | omega | (simp; done) | (simp; omega)) ?_) | (refine rec_t (by first | (simp; done) | (simp; omega) | omega) (fun _ => ?_)) | (refine rec_f (by first | (simp; done) | (simp; omega) | omega) (fun _ => ?_)) | (refine opt_i (gLen_str (by first | (simp; done) | (simp; omega) | omega)) ?_) | (refine opt_i (gDiv_pos (by first | (simp; done) | (simp; omega) | omega) (by first | (simp; done) | (simp; omega) | omega)) ?_) | (refine opt_i (gMd_pos (by first | (simp; done) | (simp; omega) | omega)) ?_)))); (conv => whnf)
  by_cases c : a = 0
  · refine rec_t (by simpa using c) fun _ => ?_
    (try simp only [slots0, wipeS, backS, List.map_cons, List.map_nil, List.replicate, List.set_cons_zero, List.set_cons_succ, List.getElem?_cons_zero, List.getElem?_cons_succ, List.cons_append, List.nil_append]); (repeat ((conv => whnf); (first | (refine And.intro (by first | rfl | exact Nat.le_of_ble_eq_true rfl | decide | omega | (simp; done) | (simp; omega)) ?_) | (refine rec_t (by first | (simp; done) | (simp; omega) | omega) (fun _ => ?_)) | (refine rec_f (by first | (simp; done) | (simp; omega) | omega) (fun _ => ?_)) | (refine opt_i (gLen_str (by first | (simp; done) | (simp; omega) | omega)) ?_) | (refine opt_i (gDiv_pos (by first | (simp; done) | (simp; omega) | omega) (by first | (simp; done) | (simp; omega) | omega)) ?_) | (refine opt_i (gMd_pos (by first | (simp; done) | (simp; omega) | omega)) ?_)))); (conv => whnf)
    apply s_draw (by decide) (by decide) (by omega)
    intro f f1 f2
    (try simp only [slots0, wipeS, backS, List.map_cons, List.map_nil, List.replicate, List.set_cons_zero, List.set_cons_succ, List.getElem?_cons_zero, List.getElem?_cons_succ, List.cons_append, List.nil_append]); (repeat ((conv => whnf); (first | (refine And.intro (by first | rfl | exact Nat.le_of_ble_eq_true rfl | decide | omega | (simp; done) | (simp; omega)) ?_) | (refine rec_t (by first | (simp; done) | (simp; omega) | omega) (fun _ => ?_)) | (refine rec_f (by first | (simp; done) | (simp; omega) | omega) (fun _ => ?_)) | (refine opt_i (gLen_str (by first | (simp; done) | (simp; omega) | omega)) ?_) | (refine opt_i (gDiv_pos (by first | (simp; done) | (simp; omega) | omega) (by first | (simp; done) | (simp; omega) | omega)) ?_) | (refine opt_i (gMd_pos (by first | (simp; done) | (simp; omega) | omega)) ?_)))); (conv => whnf)
    apply s_draw (by decide) (by decide) (by omega)
    intro s s1 s2
    obtain ⟨F, hF⟩ := Int.eq_ofNat_of_zero_le f1
    obtain ⟨S, hS⟩ := Int.eq_ofNat_of_zero_le s1
    (try simp only [slots0, wipeS, backS, List.map_cons, List.map_nil, List.replicate, List.set_cons_zero, List.set_cons_succ, List.getElem?_cons_zero, List.getElem?_cons_succ, List.cons_append, List.nil_append]); (repeat ((conv => whnf); (first | (refine And.intro (by first | rfl | exact Nat.le_of_ble_eq_true rfl | decide | omega | (simp; done) | (simp; omega)) ?_) | (refine rec_t (by first | (simp; done) | (simp; omega) | omega) (fun _ => ?_)) | (refine rec_f (by first | (simp; done) | (simp; omega) | omega) (fun _ => ?_)) | (refine opt_i (gLen_str (by first | (simp; done) | (simp; omega) | omega)) ?_) | (refine opt_i (gDiv_pos (by first | (simp; done) | (simp; omega) | omega) (by first | (simp; done) | (simp; omega) | omega)) ?_) | (refine opt_i (gMd_pos (by first | (simp; done) | (simp; omega) | omega)) ?_)))); (conv => whnf)
    refine DL.comp_map (fWord F (S + 1)) _ _ (fun e he R hR => ?_) (by simp [rangeD_len]) ?_
    · obtain ⟨i, hi, rfl⟩ := range_mem he
      (try simp only [slots0, wipeS, backS, List.map_cons, List.map_nil, List.replicate, List.set_cons_zero, List.set_cons_succ, List.getElem?_cons_zero, List.getElem?_cons_succ, List.cons_append, List.nil_append]); (repeat ((conv => whnf); (first | (refine And.intro (by first | rfl | exact Nat.le_of_ble_eq_true rfl | decide | omega | (simp; done) | (simp; omega)) ?_) | (refine rec_t (by first | (simp; done) | (simp; omega) | omega) (fun _ => ?_)) | (refine rec_f (by first | (simp; done) | (simp; omega) | omega) (fun _ => ?_)) | (refine opt_i (gLen_str (by first | (simp; done) | (simp; omega) | omega)) ?_) | (refine opt_i (gDiv_pos (by first | (simp; done) | (simp; omega) | omega) (by first | (simp; done) | (simp; omega) | omega)) ?_) | (refine opt_i (gMd_pos (by first | (simp; done) | (simp; omega) | omega)) ?_)))); (conv => whnf)
      refine opt_i (gMul_r (by omega) (by omega)) ?_
      (conv => whnf)
      have ej : (f + (1 + s) * (0 + (i : Int))) % 13 = (((F + (S + 1) * i) % 13 : Nat) : Int) := by
        rw [hF, hS, Int.add_comm 1 (S : Int), Int.zero_add]
        norm_cast
      refine opt_i (atI_get (.str Str.empty) (Int.emod_nonneg _ (by decide)) (Int.emod_lt_of_pos _ (by decide))) ?_
      refine val3 ?_ (hR _ (by rfl) (by rfl))
      rw [getD_map, ej, Int.toNat_natCast]
      show D.str _ = D.str (wordAt F (S + 1) ((0 : Int) + (i : Int)).toNat)
      rw [Int.zero_add, Int.toNat_natCast]
      rfl
    · rw [List.nil_append, map_range]
      (try simp only [slots0, wipeS, backS, List.map_cons, List.map_nil, List.replicate, List.set_cons_zero, List.set_cons_succ, List.getElem?_cons_zero, List.getElem?_cons_succ, List.cons_append, List.nil_append]); (repeat ((conv => whnf); (first | (refine And.intro (by first | rfl | exact Nat.le_of_ble_eq_true rfl | decide | omega | (simp; done) | (simp; omega)) ?_) | (refine rec_t (by first | (simp; done) | (simp; omega) | omega) (fun _ => ?_)) | (refine rec_f (by first | (simp; done) | (simp; omega) | omega) (fun _ => ?_)) | (refine opt_i (gLen_str (by first | (simp; done) | (simp; omega) | omega)) ?_) | (refine opt_i (gDiv_pos (by first | (simp; done) | (simp; omega) | omega) (by first | (simp; done) | (simp; omega) | omega)) ?_) | (refine opt_i (gMd_pos (by first | (simp; done) | (simp; omega) | omega)) ?_)))); (conv => whnf)
      have := k _ (wordsOk F S (by omega) (by omega)) (n + 1 + 1 + 1) (by omega) (by omega)
      rw [List.map_map] at this
      refine val2 ?_ this
      refine congrArg D.lst (List.map_congr_left fun i _ => ?_)
      show D.str (wordAt F (S + 1) ((0 : Int) + (i : Int)).toNat) = D.str (wordAt F (S + 1) i)
      rw [Int.zero_add, Int.toNat_natCast]
  · refine rec_f (by simpa using c) fun _ => ?_
    (try simp only [slots0, wipeS, backS, List.map_cons, List.map_nil, List.replicate, List.set_cons_zero, List.set_cons_succ, List.getElem?_cons_zero, List.getElem?_cons_succ, List.cons_append, List.nil_append]); (repeat ((conv => whnf); (first | (refine And.intro (by first | rfl | exact Nat.le_of_ble_eq_true rfl | decide | omega | (simp; done) | (simp; omega)) ?_) | (refine rec_t (by first | (simp; done) | (simp; omega) | omega) (fun _ => ?_)) | (refine rec_f (by first | (simp; done) | (simp; omega) | omega) (fun _ => ?_)) | (refine opt_i (gLen_str (by first | (simp; done) | (simp; omega) | omega)) ?_) | (refine opt_i (gDiv_pos (by first | (simp; done) | (simp; omega) | omega) (by first | (simp; done) | (simp; omega) | omega)) ?_) | (refine opt_i (gMd_pos (by first | (simp; done) | (simp; omega) | omega)) ?_)))); (conv => whnf)
    apply s_draw (by decide) (by decide) (by omega)
    intro f f1 f2
    (try simp only [slots0, wipeS, backS, List.map_cons, List.map_nil, List.replicate, List.set_cons_zero, List.set_cons_succ, List.getElem?_cons_zero, List.getElem?_cons_succ, List.cons_append, List.nil_append]); (repeat ((conv => whnf); (first | (refine And.intro (by first | rfl | exact Nat.le_of_ble_eq_true rfl | decide | omega | (simp; done) | (simp; omega)) ?_) | (refine rec_t (by first | (simp; done) | (simp; omega) | omega) (fun _ => ?_)) | (refine rec_f (by first | (simp; done) | (simp; omega) | omega) (fun _ => ?_)) | (refine opt_i (gLen_str (by first | (simp; done) | (simp; omega) | omega)) ?_) | (refine opt_i (gDiv_pos (by first | (simp; done) | (simp; omega) | omega) (by first | (simp; done) | (simp; omega) | omega)) ?_) | (refine opt_i (gMd_pos (by first | (simp; done) | (simp; omega) | omega)) ?_)))); (conv => whnf)
    apply s_pick (by simp) (by simp) (by omega)
    intro ds hds
    obtain ⟨S, s, hs, hS, rfl⟩ : ∃ (S : Int) (s : Nat), s ∈ [1, 3, 5, 7, 9, 11, 17, 25] ∧ (s : Int) = S ∧ ds = .int S := by
      simp at hds
      rcases hds with rfl | rfl | rfl | rfl | rfl | rfl | rfl | rfl
      · exact ⟨1, 1, by simp, rfl, rfl⟩
      · exact ⟨3, 3, by simp, rfl, rfl⟩
      · exact ⟨5, 5, by simp, rfl, rfl⟩
      · exact ⟨7, 7, by simp, rfl, rfl⟩
      · exact ⟨9, 9, by simp, rfl, rfl⟩
      · exact ⟨11, 11, by simp, rfl, rfl⟩
      · exact ⟨17, 17, by simp, rfl, rfl⟩
      · exact ⟨25, 25, by simp, rfl, rfl⟩
    (try simp only [slots0, wipeS, backS, List.map_cons, List.map_nil, List.replicate, List.set_cons_zero, List.set_cons_succ, List.getElem?_cons_zero, List.getElem?_cons_succ, List.cons_append, List.nil_append]); (repeat ((conv => whnf); (first | (refine And.intro (by first | rfl | exact Nat.le_of_ble_eq_true rfl | decide | omega | (simp; done) | (simp; omega)) ?_) | (refine rec_t (by first | (simp; done) | (simp; omega) | omega) (fun _ => ?_)) | (refine rec_f (by first | (simp; done) | (simp; omega) | omega) (fun _ => ?_)) | (refine opt_i (gLen_str (by first | (simp; done) | (simp; omega) | omega)) ?_) | (refine opt_i (gDiv_pos (by first | (simp; done) | (simp; omega) | omega) (by first | (simp; done) | (simp; omega) | omega)) ?_) | (refine opt_i (gMd_pos (by first | (simp; done) | (simp; omega) | omega)) ?_)))); (conv => whnf)
    apply s_draw (by decide) (by decide) (by omega)
    intro m m1 m2
    (try simp only [slots0, wipeS, backS, List.map_cons, List.map_nil, List.replicate, List.set_cons_zero, List.set_cons_succ, List.getElem?_cons_zero, List.getElem?_cons_succ, List.cons_append, List.nil_append]); (repeat ((conv => whnf); (first | (refine And.intro (by first | rfl | exact Nat.le_of_ble_eq_true rfl | decide | omega | (simp; done) | (simp; omega)) ?_) | (refine rec_t (by first | (simp; done) | (simp; omega) | omega) (fun _ => ?_)) | (refine rec_f (by first | (simp; done) | (simp; omega) | omega) (fun _ => ?_)) | (refine opt_i (gLen_str (by first | (simp; done) | (simp; omega) | omega)) ?_) | (refine opt_i (gDiv_pos (by first | (simp; done) | (simp; omega) | omega) (by first | (simp; done) | (simp; omega) | omega)) ?_) | (refine opt_i (gMd_pos (by first | (simp; done) | (simp; omega) | omega)) ?_)))); (conv => whnf)
    refine comp_gen (fun i acc z => ∃ cs : List Nat, acc = cs.map (fun c => D.str (sg c)) ∧ (∀ c ∈ cs, c ∈ letters.cps.toList) ∧ cs.length = i ∧ z = n + 4 + i) _ (by rw [rangeD_len]; omega) (fun i e acc z he hI ha R hR => ?_) (fun acc z hI ha => ?_) _ ⟨[], rfl, by simp, rfl, rfl⟩
    · obtain ⟨cs, rfl, hc, hl, rfl⟩ := hI
      have hi : i < (rangeD 0 m.toNat).length := (List.getElem?_eq_some_iff.mp he).1
      rw [rangeD_len] at hi
      (try simp only [slots0, wipeS, backS, List.map_cons, List.map_nil, List.replicate, List.set_cons_zero, List.set_cons_succ, List.getElem?_cons_zero, List.getElem?_cons_succ, List.cons_append, List.nil_append]); (repeat ((conv => whnf); (first | (refine And.intro (by first | rfl | exact Nat.le_of_ble_eq_true rfl | decide | omega | (simp; done) | (simp; omega)) ?_) | (refine rec_t (by first | (simp; done) | (simp; omega) | omega) (fun _ => ?_)) | (refine rec_f (by first | (simp; done) | (simp; omega) | omega) (fun _ => ?_)) | (refine opt_i (gLen_str (by first | (simp; done) | (simp; omega) | omega)) ?_) | (refine opt_i (gDiv_pos (by first | (simp; done) | (simp; omega) | omega) (by first | (simp; done) | (simp; omega) | omega)) ?_) | (refine opt_i (gMd_pos (by first | (simp; done) | (simp; omega) | omega)) ?_)))); (conv => whnf)
      refine s_pickL (by omega) fun c hcl => ?_
      refine hR _ _ _ ⟨cs ++ [c], by simp; rfl, fun x hx => ?_, by simp [hl], by omega⟩ (by rfl) (by rfl)
      rcases List.mem_append.mp hx with hx | hx
      · exact hc x hx
      · simp at hx
        subst hx
        exact hcl
    · obtain ⟨hd, rfl, hhd, hl, rfl⟩ := hI
      rw [rangeD_len] at hl
      refine ⟨rfl, rfl, hd.map (fun c => D.str (sg c)), hd.map sg, rfl, by simp [strD], ?_, ?_⟩
      · rw [sum_sg]
        simp
        have : hd.length ≤ 3 := by omega
        have e : Str.length "" = 0 := by decide +kernel
        rw [e]
        omega
      · obtain ⟨F, hF⟩ := Int.eq_ofNat_of_zero_le f1
        have hl3 : hd.length ≤ 3 := by omega
        (try simp only [slots0, wipeS, backS, List.map_cons, List.map_nil, List.replicate, List.set_cons_zero, List.set_cons_succ, List.getElem?_cons_zero, List.getElem?_cons_succ, List.cons_append, List.nil_append]); (repeat ((conv => whnf); (first | (refine And.intro (by first | rfl | exact Nat.le_of_ble_eq_true rfl | decide | omega | (simp; done) | (simp; omega)) ?_) | (refine rec_t (by first | (simp; done) | (simp; omega) | omega) (fun _ => ?_)) | (refine rec_f (by first | (simp; done) | (simp; omega) | omega) (fun _ => ?_)) | (refine opt_i (gLen_str (by first | (simp; done) | (simp; omega) | omega)) ?_) | (refine opt_i (gDiv_pos (by first | (simp; done) | (simp; omega) | omega) (by first | (simp; done) | (simp; omega) | omega)) ?_) | (refine opt_i (gMd_pos (by first | (simp; done) | (simp; omega) | omega)) ?_)))); (conv => whnf)
        simp only [rangeD_len]
        refine comp_gen (fun i acc z => ∃ ts : List (List Nat), acc = ts.map (fun cs => D.str (joinS cs)) ∧ (∀ t ∈ ts, t.length ≤ 4 ∧ ∀ c ∈ t, c ∈ letters.cps.toList) ∧ ts.length = i ∧ n + 4 ≤ z ∧ z ≤ n + 8 + 6 * i) _ (by rw [rangeD_len]; decide) (fun i e acc z he hI ha R hR => ?_) (fun acc z hI ha => ?_) _ ⟨[], rfl, by simp, rfl, by omega, by omega⟩
        · obtain ⟨ts, rfl, hts, hlt, z1, z2⟩ := hI
          have hi : i < (rangeD 0 (Int.toNat 6)).length := (List.getElem?_eq_some_iff.mp he).1
          rw [rangeD_len] at hi
          have hi6 : i < 6 := hi
          (try simp only [slots0, wipeS, backS, List.map_cons, List.map_nil, List.replicate, List.set_cons_zero, List.set_cons_succ, List.getElem?_cons_zero, List.getElem?_cons_succ, List.cons_append, List.nil_append]); (repeat ((conv => whnf); (first | (refine And.intro (by first | rfl | exact Nat.le_of_ble_eq_true rfl | decide | omega | (simp; done) | (simp; omega)) ?_) | (refine rec_t (by first | (simp; done) | (simp; omega) | omega) (fun _ => ?_)) | (refine rec_f (by first | (simp; done) | (simp; omega) | omega) (fun _ => ?_)) | (refine opt_i (gLen_str (by first | (simp; done) | (simp; omega) | omega)) ?_) | (refine opt_i (gDiv_pos (by first | (simp; done) | (simp; omega) | omega) (by first | (simp; done) | (simp; omega) | omega)) ?_) | (refine opt_i (gMd_pos (by first | (simp; done) | (simp; omega) | omega)) ?_)))); (conv => whnf)
          apply s_draw (by decide) (by decide) (by omega)
          intro u u1 u2
          (try simp only [slots0, wipeS, backS, List.map_cons, List.map_nil, List.replicate, List.set_cons_zero, List.set_cons_succ, List.getElem?_cons_zero, List.getElem?_cons_succ, List.cons_append, List.nil_append]); (repeat ((conv => whnf); (first | (refine And.intro (by first | rfl | exact Nat.le_of_ble_eq_true rfl | decide | omega | (simp; done) | (simp; omega)) ?_) | (refine rec_t (by first | (simp; done) | (simp; omega) | omega) (fun _ => ?_)) | (refine rec_f (by first | (simp; done) | (simp; omega) | omega) (fun _ => ?_)) | (refine opt_i (gLen_str (by first | (simp; done) | (simp; omega) | omega)) ?_) | (refine opt_i (gDiv_pos (by first | (simp; done) | (simp; omega) | omega) (by first | (simp; done) | (simp; omega) | omega)) ?_) | (refine opt_i (gMd_pos (by first | (simp; done) | (simp; omega) | omega)) ?_)))); (conv => whnf)
          refine comp_gen (fun i acc y => ∃ cs : List Nat, acc = cs.map (fun c => D.str (sg c)) ∧ (∀ c ∈ cs, c ∈ letters.cps.toList) ∧ cs.length = i ∧ y = z + 1 + i) _ (by rw [rangeD_len]; omega) (fun i e acc y he hI ha R' hR' => ?_) (fun acc y hI ha => ?_) _ ⟨[], rfl, by simp, rfl, rfl⟩
          · obtain ⟨cs, rfl, hc, hl, rfl⟩ := hI
            have hi : i < (rangeD 0 u.toNat).length := (List.getElem?_eq_some_iff.mp he).1
            rw [rangeD_len] at hi
            (try simp only [slots0, wipeS, backS, List.map_cons, List.map_nil, List.replicate, List.set_cons_zero, List.set_cons_succ, List.getElem?_cons_zero, List.getElem?_cons_succ, List.cons_append, List.nil_append]); (repeat ((conv => whnf); (first | (refine And.intro (by first | rfl | exact Nat.le_of_ble_eq_true rfl | decide | omega | (simp; done) | (simp; omega)) ?_) | (refine rec_t (by first | (simp; done) | (simp; omega) | omega) (fun _ => ?_)) | (refine rec_f (by first | (simp; done) | (simp; omega) | omega) (fun _ => ?_)) | (refine opt_i (gLen_str (by first | (simp; done) | (simp; omega) | omega)) ?_) | (refine opt_i (gDiv_pos (by first | (simp; done) | (simp; omega) | omega) (by first | (simp; done) | (simp; omega) | omega)) ?_) | (refine opt_i (gMd_pos (by first | (simp; done) | (simp; omega) | omega)) ?_)))); (conv => whnf)
            refine s_pickL (by omega) fun c hcl => ?_
            refine hR' _ _ _ ⟨cs ++ [c], by simp; rfl, fun x hx => ?_, by simp [hl], by omega⟩ (by rfl) (by rfl)
            rcases List.mem_append.mp hx with hx | hx
            · exact hc x hx
            · simp at hx
              subst hx
              exact hcl
          · obtain ⟨cs, rfl, hcs, hlc, rfl⟩ := hI
            rw [rangeD_len] at hlc
            have hu : cs.length ≤ 4 := by omega
            refine ⟨rfl, rfl, cs.map (fun c => D.str (sg c)), cs.map sg, rfl, by simp [strD], ?_, ?_⟩
            · rw [sum_sg]
              have e : Str.length "" = 0 := by decide +kernel
              rw [e]
              simp
              omega
            · refine hR _ _ _ ⟨ts ++ [cs], by simp; rfl, fun t ht => ?_, by simp [hlt], by simp only [rangeD_len]; omega, by simp only [rangeD_len]; omega⟩ (by rfl) (by rfl)
              rcases List.mem_append.mp ht with ht | ht
              · exact hts t ht
              · simp at ht
                subst ht
                exact ⟨hu, hcs⟩
        · obtain ⟨ts, rfl, hts, hlt, z1, z2⟩ := hI
          rw [rangeD_len] at hlt z2
          have hlt6 : ts.length = 6 := hlt
          have z3 : z ≤ n + 44 := z2
          (try simp only [slots0, wipeS, backS, List.map_cons, List.map_nil, List.replicate, List.set_cons_zero, List.set_cons_succ, List.getElem?_cons_zero, List.getElem?_cons_succ, List.cons_append, List.nil_append]); (repeat ((conv => whnf); (first | (refine And.intro (by first | rfl | exact Nat.le_of_ble_eq_true rfl | decide | omega | (simp; done) | (simp; omega)) ?_) | (refine rec_t (by first | (simp; done) | (simp; omega) | omega) (fun _ => ?_)) | (refine rec_f (by first | (simp; done) | (simp; omega) | omega) (fun _ => ?_)) | (refine opt_i (gLen_str (by first | (simp; done) | (simp; omega) | omega)) ?_) | (refine opt_i (gDiv_pos (by first | (simp; done) | (simp; omega) | omega) (by first | (simp; done) | (simp; omega) | omega)) ?_) | (refine opt_i (gMd_pos (by first | (simp; done) | (simp; omega) | omega)) ?_)))); (conv => whnf)
          refine names_fin hF hS (by omega) hs hl3 hts hlt6 ?_
          · (try simp only [slots0, wipeS, backS, List.map_cons, List.map_nil, List.replicate, List.set_cons_zero, List.set_cons_succ, List.getElem?_cons_zero, List.getElem?_cons_succ, List.cons_append, List.nil_append]); (repeat ((conv => whnf); (first | (refine And.intro (by first | rfl | exact Nat.le_of_ble_eq_true rfl | decide | omega | (simp; done) | (simp; omega)) ?_) | (refine rec_t (by first | (simp; done) | (simp; omega) | omega) (fun _ => ?_)) | (refine rec_f (by first | (simp; done) | (simp; omega) | omega) (fun _ => ?_)) | (refine opt_i (gLen_str (by first | (simp; done) | (simp; omega) | omega)) ?_) | (refine opt_i (gDiv_pos (by first | (simp; done) | (simp; omega) | omega) (by first | (simp; done) | (simp; omega) | omega)) ?_) | (refine opt_i (gMd_pos (by first | (simp; done) | (simp; omega) | omega)) ?_)))); (conv => whnf)
            have := k _ (nameAt_ok (ts := ts) (f := F) (s := s) hl3 hhd hts (by omega) hs) z (by omega) (by omega)
            rw [List.map_map] at this
            exact this
end
end K22
end
section
set_option maxHeartbeats 1000000
namespace K22
open PySem DL L2
theorem cutN {α : Type} (xs : List α) {v : Int} (h : 0 ≤ v) : cutD xs none (some v) = xs.take v.toNat := by
  unfold cutD
  have e1 : HT.sIx xs.length 0 none = 0 := rfl
  have e2 : HT.sIx xs.length xs.length (some v) = min v.toNat xs.length := by
    show (if v < 0 then _ else min v.toNat xs.length) = _
    rw [if_neg (by omega)]
  rw [e1, e2]
  simp
theorem cutAll {α : Type} (xs : List α) : cutD xs none none = xs := by
  unfold cutD
  have e1 : HT.sIx xs.length 0 none = 0 := rfl
  have e2 : HT.sIx xs.length xs.length none = xs.length := rfl
  rw [e1, e2]
  simp
theorem ltSt_total {a b : Str} (h : ltSt b a = false) (hn : a ≠ b) : ltSt a b = true := by
  unfold ltSt at *
  rw [decide_eq_false_iff_not, List.not_lt] at h
  rw [decide_eq_true_eq]
  rcases Decidable.em (a.cps.toList < b.cps.toList) with z | z
  · exact z
  · exfalso
    rw [List.not_lt] at z
    have e := List.le_antisymm h z
    exact hn (Str.ext' (Array.toList_inj.mp e))
theorem asc_of {l : List Str} (h : l.Pairwise fun a b => ltSt b a = false) (hn : l.Nodup) : l.Pairwise fun a b => ltSt a b = true := by
  induction l with
  | nil => exact List.Pairwise.nil
  | cons a l ih =>
    rw [List.pairwise_cons] at h
    rw [List.nodup_cons] at hn
    exact List.pairwise_cons.mpr ⟨fun b hb => ltSt_total (h.1 b hb) (fun e => hn.1 (e ▸ hb)), ih h.2 hn.2⟩
section
variable {n : Nat} {q : D → Nat → Prop}
theorem s_program (hn : n < 800000) (k : ∀ as nm d, ArrOk as → AccOk as nm d → (∃ sz, (nm, sz) ∈ as ∧ (d = 0 ∨ d = sz - 1)) → ∀ n', n ≤ n' → n' ≤ n + 100 → q (progG as (loopsD nm d) (.tup []) (writersD nm d)) n') : w__law_program [.ext 0] n q := by
  unfold w__law_program
  (try simp only [slots0, wipeS, backS, List.map_cons, List.map_nil, List.replicate, List.set_cons_zero, List.set_cons_succ, List.getElem?_cons_zero, List.getElem?_cons_succ, List.cons_append, List.nil_append]); (repeat ((conv => whnf); (first | (refine And.intro (by first | rfl | exact Nat.le_of_ble_eq_true rfl | decide | omega | (simp; done) | (simp; omega)) ?_) | (refine rec_t (by first | (simp; done) | (simp; omega) | omega) (fun _ => ?_)) | (refine rec_f (by first | (simp; done) | (simp; omega) | omega) (fun _ => ?_)) | (refine opt_i (gLen_str (by first | (simp; done) | (simp; omega) | omega)) ?_) | (refine opt_i (gDiv_pos (by first | (simp; done) | (simp; omega) | omega) (by first | (simp; done) | (simp; omega) | omega)) ?_) | (refine opt_i (gMd_pos (by first | (simp; done) | (simp; omega) | omega)) ?_)))); (conv => whnf)
  refine s_names (by omega) fun l hl n1 hn1 hn2 => ?_
  (try simp only [slots0, wipeS, backS, List.map_cons, List.map_nil, List.replicate, List.set_cons_zero, List.set_cons_succ, List.getElem?_cons_zero, List.getElem?_cons_succ, List.cons_append, List.nil_append]); (repeat ((conv => whnf); (first | (refine And.intro (by first | rfl | exact Nat.le_of_ble_eq_true rfl | decide | omega | (simp; done) | (simp; omega)) ?_) | (refine rec_t (by first | (simp; done) | (simp; omega) | omega) (fun _ => ?_)) | (refine rec_f (by first | (simp; done) | (simp; omega) | omega) (fun _ => ?_)) | (refine opt_i (gLen_str (by first | (simp; done) | (simp; omega) | omega)) ?_) | (refine opt_i (gDiv_pos (by first | (simp; done) | (simp; omega) | omega) (by first | (simp; done) | (simp; omega) | omega)) ?_) | (refine opt_i (gMd_pos (by first | (simp; done) | (simp; omega) | omega)) ?_)))); (conv => whnf)
  apply s_draw (by decide) (by decide) (by omega)
  intro j j1 j2
  (try simp only [slots0, wipeS, backS, List.map_cons, List.map_nil, List.replicate, List.set_cons_zero, List.set_cons_succ, List.getElem?_cons_zero, List.getElem?_cons_succ, List.cons_append, List.nil_append]); (repeat ((conv => whnf); (first | (refine And.intro (by first | rfl | exact Nat.le_of_ble_eq_true rfl | decide | omega | (simp; done) | (simp; omega)) ?_) | (refine rec_t (by first | (simp; done) | (simp; omega) | omega) (fun _ => ?_)) | (refine rec_f (by first | (simp; done) | (simp; omega) | omega) (fun _ => ?_)) | (refine opt_i (gLen_str (by first | (simp; done) | (simp; omega) | omega)) ?_) | (refine opt_i (gDiv_pos (by first | (simp; done) | (simp; omega) | omega) (by first | (simp; done) | (simp; omega) | omega)) ?_) | (refine opt_i (gMd_pos (by first | (simp; done) | (simp; omega) | omega)) ?_)))); (conv => whnf)
  rw [cutN _ (by omega), ← List.map_take]
  have hlen : (l.take (1 + j).toNat).length = (1 + j).toNat := by
    rw [List.length_take, hl.len]
    omega
  refine ⟨l.take (1 + j).toNat, strD_map' _, by omega, fun ms hp hs => ?_⟩
  have hms : ms.length = (1 + j).toNat := by rw [hp.length_eq, hlen]
  have hsub : ∀ s ∈ ms, s ∈ l := fun s h => List.mem_of_mem_take (hp.mem_iff.mp h)
  have hnd : ms.Nodup := hp.nodup_iff.mpr (hl.nd.sublist (List.take_sublist _ _))
  have hasc := asc_of hs hnd
  (try simp only [slots0, wipeS, backS, List.map_cons, List.map_nil, List.replicate, List.set_cons_zero, List.set_cons_succ, List.getElem?_cons_zero, List.getElem?_cons_succ, List.cons_append, List.nil_append]); (repeat ((conv => whnf); (first | (refine And.intro (by first | rfl | exact Nat.le_of_ble_eq_true rfl | decide | omega | (simp; done) | (simp; omega)) ?_) | (refine rec_t (by first | (simp; done) | (simp; omega) | omega) (fun _ => ?_)) | (refine rec_f (by first | (simp; done) | (simp; omega) | omega) (fun _ => ?_)) | (refine opt_i (gLen_str (by first | (simp; done) | (simp; omega) | omega)) ?_) | (refine opt_i (gDiv_pos (by first | (simp; done) | (simp; omega) | omega) (by first | (simp; done) | (simp; omega) | omega)) ?_) | (refine opt_i (gMd_pos (by first | (simp; done) | (simp; omega) | omega)) ?_)))); (conv => whnf)
  refine comp_gen (fun i acc z => ∃ as : Arr, acc = as.map elD ∧ as.map (·.1) = ms.take i ∧ (∀ a ∈ as, 1 ≤ a.2 ∧ a.2 ≤ 1000000000000000000) ∧ n1 ≤ z ∧ z ≤ n1 + 1 + 3 * i) _ (by simp; omega) (fun i e acc z he hI ha R hR => ?_) (fun acc z hI ha => ?_) _ ⟨[], rfl, rfl, by simp, by omega, by omega⟩
  · obtain ⟨as, rfl, has, hsz, z1, z2⟩ := hI
    rw [List.getElem?_map] at he
    obtain ⟨s, hs', rfl⟩ := Option.map_eq_some_iff.mp he
    have hi : i < ms.length := (List.getElem?_eq_some_iff.mp hs').1
    have hi6 : i < 6 := by omega
    (try simp only [slots0, wipeS, backS, List.map_cons, List.map_nil, List.replicate, List.set_cons_zero, List.set_cons_succ, List.getElem?_cons_zero, List.getElem?_cons_succ, List.cons_append, List.nil_append]); (repeat ((conv => whnf); (first | (refine And.intro (by first | rfl | exact Nat.le_of_ble_eq_true rfl | decide | omega | (simp; done) | (simp; omega)) ?_) | (refine rec_t (by first | (simp; done) | (simp; omega) | omega) (fun _ => ?_)) | (refine rec_f (by first | (simp; done) | (simp; omega) | omega) (fun _ => ?_)) | (refine opt_i (gLen_str (by first | (simp; done) | (simp; omega) | omega)) ?_) | (refine opt_i (gDiv_pos (by first | (simp; done) | (simp; omega) | omega) (by first | (simp; done) | (simp; omega) | omega)) ?_) | (refine opt_i (gMd_pos (by first | (simp; done) | (simp; omega) | omega)) ?_)))); (conv => whnf)
    refine s_size (by omega) fun sz s1 s2 n3 z3 z4 => ?_
    (try simp only [slots0, wipeS, backS, List.map_cons, List.map_nil, List.replicate, List.set_cons_zero, List.set_cons_succ, List.getElem?_cons_zero, List.getElem?_cons_succ, List.cons_append, List.nil_append]); (repeat ((conv => whnf); (first | (refine And.intro (by first | rfl | exact Nat.le_of_ble_eq_true rfl | decide | omega | (simp; done) | (simp; omega)) ?_) | (refine rec_t (by first | (simp; done) | (simp; omega) | omega) (fun _ => ?_)) | (refine rec_f (by first | (simp; done) | (simp; omega) | omega) (fun _ => ?_)) | (refine opt_i (gLen_str (by first | (simp; done) | (simp; omega) | omega)) ?_) | (refine opt_i (gDiv_pos (by first | (simp; done) | (simp; omega) | omega) (by first | (simp; done) | (simp; omega) | omega)) ?_) | (refine opt_i (gMd_pos (by first | (simp; done) | (simp; omega) | omega)) ?_)))); (conv => whnf)
    refine hR _ _ _ ⟨as ++ [(s, sz)], by simp [elD], ?_, fun a ha' => ?_, by omega, by omega⟩ (by rfl) (by rfl)
    · rw [List.map_append, has, List.take_succ, hs']
      rfl
    · rcases List.mem_append.mp ha' with h | h
      · exact hsz a h
      · simp at h
        subst h
        exact ⟨s1, s2⟩
  · obtain ⟨as, rfl, has, hsz, z1, z2⟩ := hI
    rw [List.length_map] at has z2
    rw [List.take_length] at has
    have hal : as.length = ms.length := by
      have := congrArg List.length has
      simpa using this
    (try simp only [slots0, wipeS, backS, List.map_cons, List.map_nil, List.replicate, List.set_cons_zero, List.set_cons_succ, List.getElem?_cons_zero, List.getElem?_cons_succ, List.cons_append, List.nil_append]); (repeat ((conv => whnf); (first | (refine And.intro (by first | rfl | exact Nat.le_of_ble_eq_true rfl | decide | omega | (simp; done) | (simp; omega)) ?_) | (refine rec_t (by first | (simp; done) | (simp; omega) | omega) (fun _ => ?_)) | (refine rec_f (by first | (simp; done) | (simp; omega) | omega) (fun _ => ?_)) | (refine opt_i (gLen_str (by first | (simp; done) | (simp; omega) | omega)) ?_) | (refine opt_i (gDiv_pos (by first | (simp; done) | (simp; omega) | omega) (by first | (simp; done) | (simp; omega) | omega)) ?_) | (refine opt_i (gMd_pos (by first | (simp; done) | (simp; omega) | omega)) ?_)))); (conv => whnf)
    refine s_pickT (by simp; intro z; rw [z] at hal; simp at hal; omega) (by simp; omega) (by omega) fun x hx => ?_
    obtain ⟨a, ha', rfl⟩ := List.mem_map.mp hx
    obtain ⟨sz1, sz2⟩ := hsz a ha'
    (try simp only [slots0, wipeS, backS, List.map_cons, List.map_nil, List.replicate, List.set_cons_zero, List.set_cons_succ, List.getElem?_cons_zero, List.getElem?_cons_succ, List.cons_append, List.nil_append]); (repeat ((conv => whnf); (first | (refine And.intro (by first | rfl | exact Nat.le_of_ble_eq_true rfl | decide | omega | (simp; done) | (simp; omega)) ?_) | (refine rec_t (by first | (simp; done) | (simp; omega) | omega) (fun _ => ?_)) | (refine rec_f (by first | (simp; done) | (simp; omega) | omega) (fun _ => ?_)) | (refine opt_i (gLen_str (by first | (simp; done) | (simp; omega) | omega)) ?_) | (refine opt_i (gDiv_pos (by first | (simp; done) | (simp; omega) | omega) (by first | (simp; done) | (simp; omega) | omega)) ?_) | (refine opt_i (gMd_pos (by first | (simp; done) | (simp; omega) | omega)) ?_)))); (conv => whnf)
    have aok : ArrOk as := ⟨by omega, by omega, fun b hb => hl.all _ (hsub _ (by rw [← has]; exact List.mem_map.mpr ⟨b, hb, rfl⟩)), hsz, by rw [has]; exact hasc⟩
    have acc : ∀ o : Int, 0 ≤ o → o < a.2 → AccOk as a.1 o := fun o o1 o2 => ⟨⟨a.2, ha', o1, o2⟩⟩
    refine s_pick (by simp) (by simp) (by omega) fun x hx => ?_
    have hx2 : ∃ o : Int, x = .int o ∧ 0 ≤ o ∧ o < a.2 ∧ (o = 0 ∨ o = a.2 - 1) := by
      simp at hx
      rcases hx with rfl | rfl
      · exact ⟨0, rfl, by omega, by omega, .inl rfl⟩
      · exact ⟨a.2 - 1, rfl, by omega, by omega, .inr rfl⟩
    obtain ⟨o, rfl, o1, o2, o3⟩ := hx2
    (try simp only [slots0, wipeS, backS, List.map_cons, List.map_nil, List.replicate, List.set_cons_zero, List.set_cons_succ, List.getElem?_cons_zero, List.getElem?_cons_succ, List.cons_append, List.nil_append]); (repeat ((conv => whnf); (first | (refine And.intro (by first | rfl | exact Nat.le_of_ble_eq_true rfl | decide | omega | (simp; done) | (simp; omega)) ?_) | (refine rec_t (by first | (simp; done) | (simp; omega) | omega) (fun _ => ?_)) | (refine rec_f (by first | (simp; done) | (simp; omega) | omega) (fun _ => ?_)) | (refine opt_i (gLen_str (by first | (simp; done) | (simp; omega) | omega)) ?_) | (refine opt_i (gDiv_pos (by first | (simp; done) | (simp; omega) | omega) (by first | (simp; done) | (simp; omega) | omega)) ?_) | (refine opt_i (gMd_pos (by first | (simp; done) | (simp; omega) | omega)) ?_)))); (conv => whnf)
    exact s_Program1 aok (acc o o1 o2) (k _ _ _ aok (acc o o1 o2) ⟨a.2, ha', o3⟩ _ (by omega) (by omega))
end
end K22
end
section
set_option maxHeartbeats 1000000
namespace K22
open PySem DL L2
structure RowIn (as : Arr) (r : Row) : Prop where
  ex : ∃ sz, (r.1, sz) ∈ as ∧ 0 ≤ r.2.1 + low r.2.2 sz
  lay : LayOk r.2.2
  lo : 0 ≤ r.2.1
  hi : r.2.1 < 20000000000000000000000000000000
structure RowsIn (as : Arr) (rs : List Row) : Prop where
  names : rs.map (·.1) = as.map (·.1)
  each : ∀ r ∈ rs, RowIn as r
theorem RowsIn.ok {as : Arr} {rs : List Row} (h : RowsIn as rs) : RowsOk as rs := ⟨fun r hr => by
  obtain ⟨sz, h1, h2⟩ := (h.each r hr).ex
  exact ⟨sz, h1, h2, (h.each r hr).lay⟩, by rw [h.names]⟩
def UV (s : Slot) : Prop := s = .un ∨ ∃ d, s = .val d
theorem gEq_layD {l : Lay} : gEq (layD l) (.str "down") = some (.bl (match l with | .down => true | _ => false)) := by
  cases l with
  | up => rw [show gEq (layD .up) (.str "down") = _ from gEq_str okU okD, neUD]
  | down => rw [show gEq (layD .down) (.str "down") = _ from gEq_str okD okD]; simp
  | ring k => exact gEq_ring okD
section
variable {n : Nat} {q : D → Nat → Prop} {as : Arr} {lo ou wr : D}
theorem s_places (ok : ArrOk as) (hn : n < 800000) (k : ∀ rs, RowsIn as rs → ∀ n', n ≤ n' → n' ≤ n + 60 → q (.lst (rs.map rowD)) n') : w__law_places [.ext 0, arrD as] n q := by
  have h6 := ok.hi
  unfold w__law_places arrD
  (try simp only [slots0, wipeS, backS, List.map_cons, List.map_nil, List.replicate, List.set_cons_zero, List.set_cons_succ, List.getElem?_cons_zero, List.getElem?_cons_succ, List.cons_append, List.nil_append]); (repeat ((conv => whnf); (first | (refine And.intro (by first | rfl | exact Nat.le_of_ble_eq_true rfl | decide | omega | (simp; done) | (simp; omega)) ?_) | (refine rec_t (by first | (simp; done) | (simp; omega) | omega) (fun _ => ?_)) | (refine rec_f (by first | (simp; done) | (simp; omega) | omega) (fun _ => ?_)) | (refine opt_i (gLen_str (by first | (simp; done) | (simp; omega) | omega)) ?_) | (refine opt_i (gDiv_pos (by first | (simp; done) | (simp; omega) | omega) (by first | (simp; done) | (simp; omega) | omega)) ?_) | (refine opt_i (gMd_pos (by first | (simp; done) | (simp; omega) | omega)) ?_)))); (conv => whnf)
  refine loop_inv (fun i ρ z => ∃ (rs : List Row) (s3 s4 s5 : Slot), ρ = [.val (.ext 0), .val (.tup (as.map elD)), .own (.lst (rs.map rowD)), s3, s4, s5] ∧ rs.map (·.1) = (as.take i).map (·.1) ∧ (∀ r ∈ rs, RowIn as r) ∧ n ≤ z ∧ z ≤ n + 8 * i) _ (fun i e ρ z he hI Z hZ => ?_) (fun ρ z hI => ?_) _ _ ⟨[], .un, .un, .un, rfl, rfl, by simp, by omega, by omega⟩
  · obtain ⟨rs, s3, s4, s5, rfl, hrs, hall, z1, z2⟩ := hI
    rw [List.getElem?_map] at he
    obtain ⟨a, ha, rfl⟩ := Option.map_eq_some_iff.mp he
    have hi : i < as.length := (List.getElem?_eq_some_iff.mp ha).1
    have hmem : a ∈ as := List.mem_of_getElem? ha
    obtain ⟨sz1, sz2⟩ := ok.sizes a hmem
    have hlen : rs.length ≤ 6 := by
      have := congrArg List.length hrs
      simp at this
      omega
    (try simp only [slots0, wipeS, backS, List.map_cons, List.map_nil, List.replicate, List.set_cons_zero, List.set_cons_succ, List.getElem?_cons_zero, List.getElem?_cons_succ, List.cons_append, List.nil_append]); (repeat ((conv => whnf); (first | (refine And.intro (by first | rfl | exact Nat.le_of_ble_eq_true rfl | decide | omega | (simp; done) | (simp; omega)) ?_) | (refine rec_t (by first | (simp; done) | (simp; omega) | omega) (fun _ => ?_)) | (refine rec_f (by first | (simp; done) | (simp; omega) | omega) (fun _ => ?_)) | (refine opt_i (gLen_str (by first | (simp; done) | (simp; omega) | omega)) ?_) | (refine opt_i (gDiv_pos (by first | (simp; done) | (simp; omega) | omega) (by first | (simp; done) | (simp; omega) | omega)) ?_) | (refine opt_i (gMd_pos (by first | (simp; done) | (simp; omega) | omega)) ?_)))); (conv => whnf)
    apply s_draw (by decide) (by decide) (by omega)
    intro u u1 u2
    (try simp only [slots0, wipeS, backS, List.map_cons, List.map_nil, List.replicate, List.set_cons_zero, List.set_cons_succ, List.getElem?_cons_zero, List.getElem?_cons_succ, List.cons_append, List.nil_append]); (repeat ((conv => whnf); (first | (refine And.intro (by first | rfl | exact Nat.le_of_ble_eq_true rfl | decide | omega | (simp; done) | (simp; omega)) ?_) | (refine rec_t (by first | (simp; done) | (simp; omega) | omega) (fun _ => ?_)) | (refine rec_f (by first | (simp; done) | (simp; omega) | omega) (fun _ => ?_)) | (refine opt_i (gLen_str (by first | (simp; done) | (simp; omega) | omega)) ?_) | (refine opt_i (gDiv_pos (by first | (simp; done) | (simp; omega) | omega) (by first | (simp; done) | (simp; omega) | omega)) ?_) | (refine opt_i (gMd_pos (by first | (simp; done) | (simp; omega) | omega)) ?_)))); (conv => whnf)
    apply s_draw (by decide) (by decide) (by omega)
    intro v v1 v2
    (try simp only [slots0, wipeS, backS, List.map_cons, List.map_nil, List.replicate, List.set_cons_zero, List.set_cons_succ, List.getElem?_cons_zero, List.getElem?_cons_succ, List.cons_append, List.nil_append]); (repeat ((conv => whnf); (first | (refine And.intro (by first | rfl | exact Nat.le_of_ble_eq_true rfl | decide | omega | (simp; done) | (simp; omega)) ?_) | (refine rec_t (by first | (simp; done) | (simp; omega) | omega) (fun _ => ?_)) | (refine rec_f (by first | (simp; done) | (simp; omega) | omega) (fun _ => ?_)) | (refine opt_i (gLen_str (by first | (simp; done) | (simp; omega) | omega)) ?_) | (refine opt_i (gDiv_pos (by first | (simp; done) | (simp; omega) | omega) (by first | (simp; done) | (simp; omega) | omega)) ?_) | (refine opt_i (gMd_pos (by first | (simp; done) | (simp; omega) | omega)) ?_)))); (conv => whnf)
    refine s_pick (by simp) (by simp) (by omega) fun x hx => ?_
    have hx2 : ∃ l, x = layD l ∧ LayOk l := by
      simp at hx
      rcases hx with rfl | rfl | rfl | rfl
      · exact ⟨.up, rfl, trivial⟩
      · exact ⟨.down, rfl, trivial⟩
      · exact ⟨.ring (1 + u), rfl, by constructor <;> omega⟩
      · exact ⟨.ring (1 + v), rfl, by constructor <;> omega⟩
    obtain ⟨l, rfl, hl⟩ := hx2
    (try simp only [slots0, wipeS, backS, List.map_cons, List.map_nil, List.replicate, List.set_cons_zero, List.set_cons_succ, List.getElem?_cons_zero, List.getElem?_cons_succ, List.cons_append, List.nil_append]); (repeat ((conv => whnf); (first | (refine And.intro (by first | rfl | exact Nat.le_of_ble_eq_true rfl | decide | omega | (simp; done) | (simp; omega)) ?_) | (refine rec_t (by first | (simp; done) | (simp; omega) | omega) (fun _ => ?_)) | (refine rec_f (by first | (simp; done) | (simp; omega) | omega) (fun _ => ?_)) | (refine opt_i (gLen_str (by first | (simp; done) | (simp; omega) | omega)) ?_) | (refine opt_i (gDiv_pos (by first | (simp; done) | (simp; omega) | omega) (by first | (simp; done) | (simp; omega) | omega)) ?_) | (refine opt_i (gMd_pos (by first | (simp; done) | (simp; omega) | omega)) ?_)))); (conv => whnf)
    refine opt_i gEq_layD ?_
    have fin : ∀ f : Int, f = (match l with | .down => a.2 - 1 | _ => 0) → ∀ g : Int, 0 ≤ g → g < 10000000000000000000000000000000 → ∀ n', z ≤ n' → n' ≤ z + 8 → Z [.val (.ext 0), .val (.tup (as.map elD)), .own (.lst (rs.map rowD ++ [rowD (a.1, f + g, l)])), .val (.str a.1), .val (.int a.2), .val (layD l)] n' := by
      intro f hf g g1 g2 n' z3 z4
      refine hZ _ _ ⟨rs ++ [(a.1, f + g, l)], _, _, _, by rw [List.map_append]; rfl, ?_, fun r hr => ?_, by omega, by omega⟩
      · rw [List.map_append, hrs, List.take_succ, ha]
        simp
      · rcases List.mem_append.mp hr with hr | hr
        · exact hall r hr
        · simp at hr
          subst hr
          refine ⟨⟨a.2, hmem, ?_⟩, hl, ?_, ?_⟩ <;> (subst hf; cases l <;> simp [low] <;> omega)
    cases l with
    | up =>
      (try simp only [slots0, wipeS, backS, List.map_cons, List.map_nil, List.replicate, List.set_cons_zero, List.set_cons_succ, List.getElem?_cons_zero, List.getElem?_cons_succ, List.cons_append, List.nil_append]); (repeat ((conv => whnf); (first | (refine And.intro (by first | rfl | exact Nat.le_of_ble_eq_true rfl | decide | omega | (simp; done) | (simp; omega)) ?_) | (refine rec_t (by first | (simp; done) | (simp; omega) | omega) (fun _ => ?_)) | (refine rec_f (by first | (simp; done) | (simp; omega) | omega) (fun _ => ?_)) | (refine opt_i (gLen_str (by first | (simp; done) | (simp; omega) | omega)) ?_) | (refine opt_i (gDiv_pos (by first | (simp; done) | (simp; omega) | omega) (by first | (simp; done) | (simp; omega) | omega)) ?_) | (refine opt_i (gMd_pos (by first | (simp; done) | (simp; omega) | omega)) ?_)))); (conv => whnf)
      refine s_great (by omega) fun g g1 g2 n3 z3 z4 => ?_
      (try simp only [slots0, wipeS, backS, List.map_cons, List.map_nil, List.replicate, List.set_cons_zero, List.set_cons_succ, List.getElem?_cons_zero, List.getElem?_cons_succ, List.cons_append, List.nil_append]); (repeat ((conv => whnf); (first | (refine And.intro (by first | rfl | exact Nat.le_of_ble_eq_true rfl | decide | omega | (simp; done) | (simp; omega)) ?_) | (refine rec_t (by first | (simp; done) | (simp; omega) | omega) (fun _ => ?_)) | (refine rec_f (by first | (simp; done) | (simp; omega) | omega) (fun _ => ?_)) | (refine opt_i (gLen_str (by first | (simp; done) | (simp; omega) | omega)) ?_) | (refine opt_i (gDiv_pos (by first | (simp; done) | (simp; omega) | omega) (by first | (simp; done) | (simp; omega) | omega)) ?_) | (refine opt_i (gMd_pos (by first | (simp; done) | (simp; omega) | omega)) ?_)))); (conv => whnf)
      exact fin 0 rfl g g1 g2 n3 (by omega) (by omega)
    | down =>
      (try simp only [slots0, wipeS, backS, List.map_cons, List.map_nil, List.replicate, List.set_cons_zero, List.set_cons_succ, List.getElem?_cons_zero, List.getElem?_cons_succ, List.cons_append, List.nil_append]); (repeat ((conv => whnf); (first | (refine And.intro (by first | rfl | exact Nat.le_of_ble_eq_true rfl | decide | omega | (simp; done) | (simp; omega)) ?_) | (refine rec_t (by first | (simp; done) | (simp; omega) | omega) (fun _ => ?_)) | (refine rec_f (by first | (simp; done) | (simp; omega) | omega) (fun _ => ?_)) | (refine opt_i (gLen_str (by first | (simp; done) | (simp; omega) | omega)) ?_) | (refine opt_i (gDiv_pos (by first | (simp; done) | (simp; omega) | omega) (by first | (simp; done) | (simp; omega) | omega)) ?_) | (refine opt_i (gMd_pos (by first | (simp; done) | (simp; omega) | omega)) ?_)))); (conv => whnf)
      refine s_great (by omega) fun g g1 g2 n3 z3 z4 => ?_
      (try simp only [slots0, wipeS, backS, List.map_cons, List.map_nil, List.replicate, List.set_cons_zero, List.set_cons_succ, List.getElem?_cons_zero, List.getElem?_cons_succ, List.cons_append, List.nil_append]); (repeat ((conv => whnf); (first | (refine And.intro (by first | rfl | exact Nat.le_of_ble_eq_true rfl | decide | omega | (simp; done) | (simp; omega)) ?_) | (refine rec_t (by first | (simp; done) | (simp; omega) | omega) (fun _ => ?_)) | (refine rec_f (by first | (simp; done) | (simp; omega) | omega) (fun _ => ?_)) | (refine opt_i (gLen_str (by first | (simp; done) | (simp; omega) | omega)) ?_) | (refine opt_i (gDiv_pos (by first | (simp; done) | (simp; omega) | omega) (by first | (simp; done) | (simp; omega) | omega)) ?_) | (refine opt_i (gMd_pos (by first | (simp; done) | (simp; omega) | omega)) ?_)))); (conv => whnf)
      exact fin (a.2 - 1) rfl g g1 g2 n3 (by omega) (by omega)
    | ring kk =>
      (try simp only [slots0, wipeS, backS, List.map_cons, List.map_nil, List.replicate, List.set_cons_zero, List.set_cons_succ, List.getElem?_cons_zero, List.getElem?_cons_succ, List.cons_append, List.nil_append]); (repeat ((conv => whnf); (first | (refine And.intro (by first | rfl | exact Nat.le_of_ble_eq_true rfl | decide | omega | (simp; done) | (simp; omega)) ?_) | (refine rec_t (by first | (simp; done) | (simp; omega) | omega) (fun _ => ?_)) | (refine rec_f (by first | (simp; done) | (simp; omega) | omega) (fun _ => ?_)) | (refine opt_i (gLen_str (by first | (simp; done) | (simp; omega) | omega)) ?_) | (refine opt_i (gDiv_pos (by first | (simp; done) | (simp; omega) | omega) (by first | (simp; done) | (simp; omega) | omega)) ?_) | (refine opt_i (gMd_pos (by first | (simp; done) | (simp; omega) | omega)) ?_)))); (conv => whnf)
      refine s_great (by omega) fun g g1 g2 n3 z3 z4 => ?_
      (try simp only [slots0, wipeS, backS, List.map_cons, List.map_nil, List.replicate, List.set_cons_zero, List.set_cons_succ, List.getElem?_cons_zero, List.getElem?_cons_succ, List.cons_append, List.nil_append]); (repeat ((conv => whnf); (first | (refine And.intro (by first | rfl | exact Nat.le_of_ble_eq_true rfl | decide | omega | (simp; done) | (simp; omega)) ?_) | (refine rec_t (by first | (simp; done) | (simp; omega) | omega) (fun _ => ?_)) | (refine rec_f (by first | (simp; done) | (simp; omega) | omega) (fun _ => ?_)) | (refine opt_i (gLen_str (by first | (simp; done) | (simp; omega) | omega)) ?_) | (refine opt_i (gDiv_pos (by first | (simp; done) | (simp; omega) | omega) (by first | (simp; done) | (simp; omega) | omega)) ?_) | (refine opt_i (gMd_pos (by first | (simp; done) | (simp; omega) | omega)) ?_)))); (conv => whnf)
      exact fin 0 rfl g g1 g2 n3 (by omega) (by omega)
  · obtain ⟨rs, s3, s4, s5, rfl, hrs, hall, z1, z2⟩ := hI
    rw [List.length_map] at hrs z2
    rw [List.take_length] at hrs
    (try simp only [slots0, wipeS, backS, List.map_cons, List.map_nil, List.replicate, List.set_cons_zero, List.set_cons_succ, List.getElem?_cons_zero, List.getElem?_cons_succ, List.cons_append, List.nil_append]); (repeat ((conv => whnf); (first | (refine And.intro (by first | rfl | exact Nat.le_of_ble_eq_true rfl | decide | omega | (simp; done) | (simp; omega)) ?_) | (refine rec_t (by first | (simp; done) | (simp; omega) | omega) (fun _ => ?_)) | (refine rec_f (by first | (simp; done) | (simp; omega) | omega) (fun _ => ?_)) | (refine opt_i (gLen_str (by first | (simp; done) | (simp; omega) | omega)) ?_) | (refine opt_i (gDiv_pos (by first | (simp; done) | (simp; omega) | omega) (by first | (simp; done) | (simp; omega) | omega)) ?_) | (refine opt_i (gMd_pos (by first | (simp; done) | (simp; omega) | omega)) ?_)))); (conv => whnf)
    exact k rs ⟨hrs, hall⟩ z z1 (by omega)
theorem map_erase {α β : Type} (f : α → β) : ∀ (l : List α) (i : Nat), (l.map f).eraseIdx i = (l.eraseIdx i).map f
  | [], _ => rfl
  | a :: l, 0 => rfl
  | a :: l, i + 1 => by
    show f a :: (l.map f).eraseIdx i = _
    rw [map_erase f l i]
    rfl
theorem perm_pop {α : Type} : ∀ {l : List α} {i : Nat} (h : i < l.length), (l[i] :: l.eraseIdx i).Perm l
  | a :: l, 0, _ => List.Perm.refl _
  | a :: l, i + 1, h => by
    have hi : i < l.length := by simpa using h
    have := perm_pop (l := l) (i := i) hi
    show (l[i] :: a :: l.eraseIdx i).Perm (a :: l)
    exact (List.Perm.swap ..).trans (this.cons a)
theorem s_turned {rs : List Row} (hl : rs.length ≤ 6) (hn : n < 800000) (k : ∀ rs' : List Row, rs'.Perm rs → ∀ n', n ≤ n' → n' ≤ n + 6 → q (.lst (rs'.map rowD)) n') : w__law_turned [.ext 0, .lst (rs.map rowD)] n q := by
  unfold w__law_turned
  (try simp only [slots0, wipeS, backS, List.map_cons, List.map_nil, List.replicate, List.set_cons_zero, List.set_cons_succ, List.getElem?_cons_zero, List.getElem?_cons_succ, List.cons_append, List.nil_append]); (repeat ((conv => whnf); (first | (refine And.intro (by first | rfl | exact Nat.le_of_ble_eq_true rfl | decide | omega | (simp; done) | (simp; omega)) ?_) | (refine rec_t (by first | (simp; done) | (simp; omega) | omega) (fun _ => ?_)) | (refine rec_f (by first | (simp; done) | (simp; omega) | omega) (fun _ => ?_)) | (refine opt_i (gLen_str (by first | (simp; done) | (simp; omega) | omega)) ?_) | (refine opt_i (gDiv_pos (by first | (simp; done) | (simp; omega) | omega) (by first | (simp; done) | (simp; omega) | omega)) ?_) | (refine opt_i (gMd_pos (by first | (simp; done) | (simp; omega) | omega)) ?_)))); (conv => whnf)
  rw [cutAll]
  (try simp only [slots0, wipeS, backS, List.map_cons, List.map_nil, List.replicate, List.set_cons_zero, List.set_cons_succ, List.getElem?_cons_zero, List.getElem?_cons_succ, List.cons_append, List.nil_append]); (repeat ((conv => whnf); (first | (refine And.intro (by first | rfl | exact Nat.le_of_ble_eq_true rfl | decide | omega | (simp; done) | (simp; omega)) ?_) | (refine rec_t (by first | (simp; done) | (simp; omega) | omega) (fun _ => ?_)) | (refine rec_f (by first | (simp; done) | (simp; omega) | omega) (fun _ => ?_)) | (refine opt_i (gLen_str (by first | (simp; done) | (simp; omega) | omega)) ?_) | (refine opt_i (gDiv_pos (by first | (simp; done) | (simp; omega) | omega) (by first | (simp; done) | (simp; omega) | omega)) ?_) | (refine opt_i (gMd_pos (by first | (simp; done) | (simp; omega) | omega)) ?_)))); (conv => whnf)
  refine loop_inv (fun i ρ z => ∃ (a b : List Row) (s : DL.Slot), ρ = [.val (.ext 0), .own (.lst (a.map rowD)), s, .own (.lst (b.map rowD))] ∧ (b ++ a).Perm rs ∧ a.length + i = rs.length ∧ z = n + i) _ (fun i e ρ z he hI Z hZ => ?_) (fun ρ z hI => ?_) _ _ ⟨rs, [], .un, rfl, by simp, by simp, rfl⟩
  · obtain ⟨a, b, s, rfl, hp, hi, rfl⟩ := hI
    have hi2 : i < (rangeD 0 (Int.toNat (rs.map rowD).length)).length := (List.getElem?_eq_some_iff.mp he).1
    rw [rangeD_len] at hi2
    simp at hi2
    have hbl : b.length ≤ 6 := by
      have := hp.length_eq
      simp at this
      omega
    (try simp only [slots0, wipeS, backS, List.map_cons, List.map_nil, List.replicate, List.set_cons_zero, List.set_cons_succ, List.getElem?_cons_zero, List.getElem?_cons_succ, List.cons_append, List.nil_append]); (repeat ((conv => whnf); (first | (refine And.intro (by first | rfl | exact Nat.le_of_ble_eq_true rfl | decide | omega | (simp; done) | (simp; omega)) ?_) | (refine rec_t (by first | (simp; done) | (simp; omega) | omega) (fun _ => ?_)) | (refine rec_f (by first | (simp; done) | (simp; omega) | omega) (fun _ => ?_)) | (refine opt_i (gLen_str (by first | (simp; done) | (simp; omega) | omega)) ?_) | (refine opt_i (gDiv_pos (by first | (simp; done) | (simp; omega) | omega) (by first | (simp; done) | (simp; omega) | omega)) ?_) | (refine opt_i (gMd_pos (by first | (simp; done) | (simp; omega) | omega)) ?_)))); (conv => whnf)
    refine s_draw (by simp; omega) (by simp; omega) (by omega) fun j j1 j2 => ?_
    simp at j2
    have hj : j.toNat < a.length := by omega
    (try simp only [slots0, wipeS, backS, List.map_cons, List.map_nil, List.replicate, List.set_cons_zero, List.set_cons_succ, List.getElem?_cons_zero, List.getElem?_cons_succ, List.cons_append, List.nil_append]); (repeat ((conv => whnf); (first | (refine And.intro (by first | rfl | exact Nat.le_of_ble_eq_true rfl | decide | omega | (simp; done) | (simp; omega)) ?_) | (refine rec_t (by first | (simp; done) | (simp; omega) | omega) (fun _ => ?_)) | (refine rec_f (by first | (simp; done) | (simp; omega) | omega) (fun _ => ?_)) | (refine opt_i (gLen_str (by first | (simp; done) | (simp; omega) | omega)) ?_) | (refine opt_i (gDiv_pos (by first | (simp; done) | (simp; omega) | omega) (by first | (simp; done) | (simp; omega) | omega)) ?_) | (refine opt_i (gMd_pos (by first | (simp; done) | (simp; omega) | omega)) ?_)))); (conv => whnf)
    refine opt_i (d := rowD a[j.toNat]) (by simp [hj]) ?_
    refine ⟨trivial, by simp; omega, ?_⟩
    refine hZ _ _ ⟨a.eraseIdx j.toNat, b ++ [a[j.toNat]], _, by rw [List.map_append, map_erase]; rfl, ?_, ?_, by omega⟩
    · refine List.Perm.trans ?_ hp
      rw [List.append_assoc]
      exact (perm_pop hj).append_left b
    · rw [List.length_eraseIdx_of_lt hj]
      omega
  · obtain ⟨a, b, s, rfl, hp, hi, rfl⟩ := hI
    rw [rangeD_len] at hi ⊢
    simp at hi
    subst hi
    (try simp only [slots0, wipeS, backS, List.map_cons, List.map_nil, List.replicate, List.set_cons_zero, List.set_cons_succ, List.getElem?_cons_zero, List.getElem?_cons_succ, List.cons_append, List.nil_append]); (repeat ((conv => whnf); (first | (refine And.intro (by first | rfl | exact Nat.le_of_ble_eq_true rfl | decide | omega | (simp; done) | (simp; omega)) ?_) | (refine rec_t (by first | (simp; done) | (simp; omega) | omega) (fun _ => ?_)) | (refine rec_f (by first | (simp; done) | (simp; omega) | omega) (fun _ => ?_)) | (refine opt_i (gLen_str (by first | (simp; done) | (simp; omega) | omega)) ?_) | (refine opt_i (gDiv_pos (by first | (simp; done) | (simp; omega) | omega) (by first | (simp; done) | (simp; omega) | omega)) ?_) | (refine opt_i (gMd_pos (by first | (simp; done) | (simp; omega) | omega)) ?_)))); (conv => whnf)
    rw [List.append_nil] at hp
    exact k b hp _ (by omega) (by simp; omega)
theorem s_placement {rs0 rs : List Row} (ok : ArrOk as) (p0 : rs0.Perm rs) (nm0 : rs.map (·.1) = as.map (·.1)) (rok : RowsOk as rs) (k : ∀ x, PlG as lo ou wr rs x → q x n) : w__law_placement [progG as lo ou wr, .lst (rs0.map rowD)] n q := by
  have hl : rs0.length = as.length := by
    have := congrArg List.length nm0
    simp at this
    rw [p0.length_eq, this]
  have h1 := ok.lo
  have h6 := ok.hi
  have fin : ∀ x, x = D.tup (rs0.map rowD) → wI_Placement___init__ [progG as lo ou wr, x] n q rx0 := fun x e => by
    rw [e]
    exact s_Placement ok p0 nm0 rok k
  unfold w__law_placement
  match rs0, hl with
  | [], hl => simp at hl; omega
  | [a], _ =>
    (try simp only [slots0, wipeS, backS, List.map_cons, List.map_nil, List.replicate, List.set_cons_zero, List.set_cons_succ, List.getElem?_cons_zero, List.getElem?_cons_succ, List.cons_append, List.nil_append]); (repeat ((conv => whnf); (first | (refine And.intro (by first | rfl | exact Nat.le_of_ble_eq_true rfl | decide | omega | (simp; done) | (simp; omega)) ?_) | (refine rec_t (by first | (simp; done) | (simp; omega) | omega) (fun _ => ?_)) | (refine rec_f (by first | (simp; done) | (simp; omega) | omega) (fun _ => ?_)) | (refine opt_i (gLen_str (by first | (simp; done) | (simp; omega) | omega)) ?_) | (refine opt_i (gDiv_pos (by first | (simp; done) | (simp; omega) | omega) (by first | (simp; done) | (simp; omega) | omega)) ?_) | (refine opt_i (gMd_pos (by first | (simp; done) | (simp; omega) | omega)) ?_)))); (conv => whnf)
    exact fin _ rfl
  | [a, b], _ =>
    (try simp only [slots0, wipeS, backS, List.map_cons, List.map_nil, List.replicate, List.set_cons_zero, List.set_cons_succ, List.getElem?_cons_zero, List.getElem?_cons_succ, List.cons_append, List.nil_append]); (repeat ((conv => whnf); (first | (refine And.intro (by first | rfl | exact Nat.le_of_ble_eq_true rfl | decide | omega | (simp; done) | (simp; omega)) ?_) | (refine rec_t (by first | (simp; done) | (simp; omega) | omega) (fun _ => ?_)) | (refine rec_f (by first | (simp; done) | (simp; omega) | omega) (fun _ => ?_)) | (refine opt_i (gLen_str (by first | (simp; done) | (simp; omega) | omega)) ?_) | (refine opt_i (gDiv_pos (by first | (simp; done) | (simp; omega) | omega) (by first | (simp; done) | (simp; omega) | omega)) ?_) | (refine opt_i (gMd_pos (by first | (simp; done) | (simp; omega) | omega)) ?_)))); (conv => whnf)
    exact fin _ rfl
  | [a, b, c], _ =>
    (try simp only [slots0, wipeS, backS, List.map_cons, List.map_nil, List.replicate, List.set_cons_zero, List.set_cons_succ, List.getElem?_cons_zero, List.getElem?_cons_succ, List.cons_append, List.nil_append]); (repeat ((conv => whnf); (first | (refine And.intro (by first | rfl | exact Nat.le_of_ble_eq_true rfl | decide | omega | (simp; done) | (simp; omega)) ?_) | (refine rec_t (by first | (simp; done) | (simp; omega) | omega) (fun _ => ?_)) | (refine rec_f (by first | (simp; done) | (simp; omega) | omega) (fun _ => ?_)) | (refine opt_i (gLen_str (by first | (simp; done) | (simp; omega) | omega)) ?_) | (refine opt_i (gDiv_pos (by first | (simp; done) | (simp; omega) | omega) (by first | (simp; done) | (simp; omega) | omega)) ?_) | (refine opt_i (gMd_pos (by first | (simp; done) | (simp; omega) | omega)) ?_)))); (conv => whnf)
    exact fin _ rfl
  | [a, b, c, e], _ =>
    (try simp only [slots0, wipeS, backS, List.map_cons, List.map_nil, List.replicate, List.set_cons_zero, List.set_cons_succ, List.getElem?_cons_zero, List.getElem?_cons_succ, List.cons_append, List.nil_append]); (repeat ((conv => whnf); (first | (refine And.intro (by first | rfl | exact Nat.le_of_ble_eq_true rfl | decide | omega | (simp; done) | (simp; omega)) ?_) | (refine rec_t (by first | (simp; done) | (simp; omega) | omega) (fun _ => ?_)) | (refine rec_f (by first | (simp; done) | (simp; omega) | omega) (fun _ => ?_)) | (refine opt_i (gLen_str (by first | (simp; done) | (simp; omega) | omega)) ?_) | (refine opt_i (gDiv_pos (by first | (simp; done) | (simp; omega) | omega) (by first | (simp; done) | (simp; omega) | omega)) ?_) | (refine opt_i (gMd_pos (by first | (simp; done) | (simp; omega) | omega)) ?_)))); (conv => whnf)
    exact fin _ rfl
  | [a, b, c, e, f], _ =>
    (try simp only [slots0, wipeS, backS, List.map_cons, List.map_nil, List.replicate, List.set_cons_zero, List.set_cons_succ, List.getElem?_cons_zero, List.getElem?_cons_succ, List.cons_append, List.nil_append]); (repeat ((conv => whnf); (first | (refine And.intro (by first | rfl | exact Nat.le_of_ble_eq_true rfl | decide | omega | (simp; done) | (simp; omega)) ?_) | (refine rec_t (by first | (simp; done) | (simp; omega) | omega) (fun _ => ?_)) | (refine rec_f (by first | (simp; done) | (simp; omega) | omega) (fun _ => ?_)) | (refine opt_i (gLen_str (by first | (simp; done) | (simp; omega) | omega)) ?_) | (refine opt_i (gDiv_pos (by first | (simp; done) | (simp; omega) | omega) (by first | (simp; done) | (simp; omega) | omega)) ?_) | (refine opt_i (gMd_pos (by first | (simp; done) | (simp; omega) | omega)) ?_)))); (conv => whnf)
    exact fin _ rfl
  | [a, b, c, e, f, g], _ =>
    (try simp only [slots0, wipeS, backS, List.map_cons, List.map_nil, List.replicate, List.set_cons_zero, List.set_cons_succ, List.getElem?_cons_zero, List.getElem?_cons_succ, List.cons_append, List.nil_append]); (repeat ((conv => whnf); (first | (refine And.intro (by first | rfl | exact Nat.le_of_ble_eq_true rfl | decide | omega | (simp; done) | (simp; omega)) ?_) | (refine rec_t (by first | (simp; done) | (simp; omega) | omega) (fun _ => ?_)) | (refine rec_f (by first | (simp; done) | (simp; omega) | omega) (fun _ => ?_)) | (refine opt_i (gLen_str (by first | (simp; done) | (simp; omega) | omega)) ?_) | (refine opt_i (gDiv_pos (by first | (simp; done) | (simp; omega) | omega) (by first | (simp; done) | (simp; omega) | omega)) ?_) | (refine opt_i (gMd_pos (by first | (simp; done) | (simp; omega) | omega)) ?_)))); (conv => whnf)
    exact fin _ rfl
  | a :: b :: c :: e :: f :: g :: h :: l, hl => simp at hl; omega
end
end K22
end
section
set_option maxHeartbeats 1000000
namespace K22
open PySem DL L2
theorem comp_mapA {α : Type} {wg : WG} {we : WE} {vs : List Nat} {ρ : Sl} {n : Nat} {Q : List D → Sl → Nat → Prop} (row : α → D) (f : α → D) : ∀ (l : List α) (acc : List D),
    (∀ a ∈ l, ∀ R : WQ, (∀ ρ', noOwn ρ' vs = true → wipeS ρ' vs = ρ → R (f a) ρ' n) → wg (row a) ρ n fun ρ1 n1 => we ρ1 n1 R) → acc.length + l.length ≤ 100000 → Q (acc ++ l.map f) ρ n → compW wg vYes we vs (l.map row) acc ρ n Q
  | [], acc, _, _, h => by simpa [compW] using h
  | a :: l, acc, hs, hl, h => by
    show wg (row a) ρ n fun ρ1 n1 => we ρ1 n1 fun y ρ3 n3 => acc.length < 100000 ∧ noOwn ρ3 vs = true ∧ compW wg vYes we vs (l.map row) (acc ++ [y]) (wipeS ρ3 vs) n3 Q
    refine hs a List.mem_cons_self _ fun ρ' h1 h2 => ⟨by simp at hl; omega, h1, ?_⟩
    rw [h2]
    refine comp_mapA row f l (acc ++ [f a]) (fun b hb => hs b (List.mem_cons_of_mem _ hb)) (by simp at hl ⊢; omega) ?_
    simpa using h
theorem comp_filterA {α : Type} {wg : WG} {wt : WT} {we : WE} {vs : List Nat} {ρ : Sl} {n : Nat} {Q : List D → Sl → Nat → Prop} (row : α → D) (t : α → Bool) (f : α → D) : ∀ (l : List α) (acc : List D),
    (∀ a ∈ l, ∀ (R : WQ) (Z : Sl → Nat → Prop), (t a = true → ∀ ρ', noOwn ρ' vs = true → wipeS ρ' vs = ρ → R (f a) ρ' n) → (t a = false → ∀ ρ', noOwn ρ' vs = true → wipeS ρ' vs = ρ → Z ρ' n) → wg (row a) ρ n fun ρ1 n1 => wt ρ1 n1 fun b ρ2 n2 => if b = true then we ρ2 n2 R else Z ρ2 n2) →
    acc.length + l.length ≤ 100000 → Q (acc ++ (l.filter t).map f) ρ n → compW wg wt we vs (l.map row) acc ρ n Q
  | [], acc, _, _, h => by simpa [compW] using h
  | a :: l, acc, hs, hl, h => by
    show wg (row a) ρ n fun ρ1 n1 => wt ρ1 n1 fun b ρ2 n2 => if b = true then we ρ2 n2 (fun y ρ3 n3 => acc.length < 100000 ∧ noOwn ρ3 vs = true ∧ compW wg wt we vs (l.map row) (acc ++ [y]) (wipeS ρ3 vs) n3 Q) else noOwn ρ2 vs = true ∧ compW wg wt we vs (l.map row) acc (wipeS ρ2 vs) n2 Q
    refine hs a List.mem_cons_self _ (fun ρ2 n2 => noOwn ρ2 vs = true ∧ compW wg wt we vs (l.map row) acc (wipeS ρ2 vs) n2 Q) (fun ht ρ' h1 h2 => ⟨by simp at hl; omega, h1, ?_⟩) fun ht ρ' h1 h2 => ⟨h1, ?_⟩
    · rw [h2]
      refine comp_filterA row t f l (acc ++ [f a]) (fun d' hd => hs d' (List.mem_cons_of_mem _ hd)) (by simp at hl ⊢; omega) ?_
      simpa [List.filter_cons, ht] using h
    · rw [h2]
      refine comp_filterA row t f l acc (fun d' hd => hs d' (List.mem_cons_of_mem _ hd)) (by simp at hl ⊢; omega) ?_
      simpa [List.filter_cons, ht] using h
/-- the size of an array by its name -/
def szOf (as : Arr) (nm : Str) : Int := ((as.find? fun a => a.1 == nm).map (·.2)).getD 0
theorem szOf_eq : ∀ {as : Arr} {nm : Str} {sz : Int}, (as.map (·.1)).Nodup → (nm, sz) ∈ as → szOf as nm = sz
  | [], _, _, _, h => absurd h (by simp)
  | a :: as, nm, sz, nd, h => by
    rw [List.map_cons, List.nodup_cons] at nd
    rcases List.mem_cons.mp h with e | h
    · subst e
      simp [szOf]
    · have ne : ¬ a.1 = nm := fun z => nd.1 (by rw [z]; exact List.mem_map.mpr ⟨_, h, rfl⟩)
      have := szOf_eq nd.2 h
      unfold szOf at *
      rw [List.find?_cons_of_neg (by simpa using ne)]
      exact this
def endOf (as : Arr) (r : Row) : Int := r.2.1 + high r.2.2 (szOf as r.1)
theorem show_one {i : Int} (h : i.natAbs < 10 ^ 60) : ShowOk (.int i) := by
  refine show_ok ?_ rfl ?_ (by show 0 ≤ 1000; decide) (by show 0 ≤ 30; decide)
  · show decide (i.natAbs.log2 < 1920) = true
    exact decide_eq_true (int_log h)
  · show decide ((PyData.shown (.int i)).length ≤ 61) = true
    exact decide_eq_true (int_short h)
structure RowsB (as : Arr) (rs : List Row) : Prop where
  names : rs.map (·.1) = as.map (·.1)
  ok : RowsOk as rs
  bnd : ∀ r ∈ rs, 0 ≤ r.2.1 ∧ r.2.1 < 1000000000000000000000000000000000000
theorem RowsIn.b {as : Arr} {rs : List Row} (h : RowsIn as rs) : RowsB as rs := ⟨h.names, h.ok, fun r hr => ⟨(h.each r hr).lo, by have := (h.each r hr).hi; omega⟩⟩
section
variable {n : Nat} {q : D → Nat → Prop} {as : Arr} {lo ou wr : D} {rs : List Row}
theorem s_size_pl {x : D} (ok : ArrOk as) (h : PlG as lo ou wr rs x) (b : RowsB as rs) (k : ∀ m ∈ rs.map (endOf as), (∀ y ∈ rs.map (endOf as), y ≤ m) → q (.int (m + 1)) n) : w_Placement_size [x] n q := by
  obtain ⟨sp, rfl⟩ := h.ex
  have hl := b.ok.len
  have h1 := ok.lo
  have h6 := ok.hi
  unfold w_Placement_size
  (try simp only [slots0, wipeS, backS, List.map_cons, List.map_nil, List.replicate, List.set_cons_zero, List.set_cons_succ, List.getElem?_cons_zero, List.getElem?_cons_succ, List.cons_append, List.nil_append]); (repeat ((conv => whnf); (first | (refine And.intro (by first | rfl | exact Nat.le_of_ble_eq_true rfl | decide | omega | (simp; done) | (simp; omega)) ?_) | (refine rec_t (by first | (simp; done) | (simp; omega) | omega) (fun _ => ?_)) | (refine rec_f (by first | (simp; done) | (simp; omega) | omega) (fun _ => ?_)) | (refine opt_i (gLen_str (by first | (simp; done) | (simp; omega) | omega)) ?_) | (refine opt_i (gDiv_pos (by first | (simp; done) | (simp; omega) | omega) (by first | (simp; done) | (simp; omega) | omega)) ?_) | (refine opt_i (gMd_pos (by first | (simp; done) | (simp; omega) | omega)) ?_)))); (conv => whnf)
  refine comp_mapA rowD (fun r => .int (endOf as r)) _ _ (fun r hr R hR => ?_) (by simp; omega) ?_
  · obtain ⟨sz, hs, hlow, hlay⟩ := b.ok.each r hr
    have e := szOf_eq ok.nodup hs
    (try simp only [slots0, wipeS, backS, List.map_cons, List.map_nil, List.replicate, List.set_cons_zero, List.set_cons_succ, List.getElem?_cons_zero, List.getElem?_cons_succ, List.cons_append, List.nil_append]); (repeat ((conv => whnf); (first | (refine And.intro (by first | rfl | exact Nat.le_of_ble_eq_true rfl | decide | omega | (simp; done) | (simp; omega)) ?_) | (refine rec_t (by first | (simp; done) | (simp; omega) | omega) (fun _ => ?_)) | (refine rec_f (by first | (simp; done) | (simp; omega) | omega) (fun _ => ?_)) | (refine opt_i (gLen_str (by first | (simp; done) | (simp; omega) | omega)) ?_) | (refine opt_i (gDiv_pos (by first | (simp; done) | (simp; omega) | omega) (by first | (simp; done) | (simp; omega) | omega)) ?_) | (refine opt_i (gMd_pos (by first | (simp; done) | (simp; omega) | omega)) ?_)))); (conv => whnf)
    apply s_size_of ok hs
    (try simp only [slots0, wipeS, backS, List.map_cons, List.map_nil, List.replicate, List.set_cons_zero, List.set_cons_succ, List.getElem?_cons_zero, List.getElem?_cons_succ, List.cons_append, List.nil_append]); (repeat ((conv => whnf); (first | (refine And.intro (by first | rfl | exact Nat.le_of_ble_eq_true rfl | decide | omega | (simp; done) | (simp; omega)) ?_) | (refine rec_t (by first | (simp; done) | (simp; omega) | omega) (fun _ => ?_)) | (refine rec_f (by first | (simp; done) | (simp; omega) | omega) (fun _ => ?_)) | (refine opt_i (gLen_str (by first | (simp; done) | (simp; omega) | omega)) ?_) | (refine opt_i (gDiv_pos (by first | (simp; done) | (simp; omega) | omega) (by first | (simp; done) | (simp; omega) | omega)) ?_) | (refine opt_i (gMd_pos (by first | (simp; done) | (simp; omega) | omega)) ?_)))); (conv => whnf)
    apply s_low_high
    (try simp only [slots0, wipeS, backS, List.map_cons, List.map_nil, List.replicate, List.set_cons_zero, List.set_cons_succ, List.getElem?_cons_zero, List.getElem?_cons_succ, List.cons_append, List.nil_append]); (repeat ((conv => whnf); (first | (refine And.intro (by first | rfl | exact Nat.le_of_ble_eq_true rfl | decide | omega | (simp; done) | (simp; omega)) ?_) | (refine rec_t (by first | (simp; done) | (simp; omega) | omega) (fun _ => ?_)) | (refine rec_f (by first | (simp; done) | (simp; omega) | omega) (fun _ => ?_)) | (refine opt_i (gLen_str (by first | (simp; done) | (simp; omega) | omega)) ?_) | (refine opt_i (gDiv_pos (by first | (simp; done) | (simp; omega) | omega) (by first | (simp; done) | (simp; omega) | omega)) ?_) | (refine opt_i (gMd_pos (by first | (simp; done) | (simp; omega) | omega)) ?_)))); (conv => whnf)
    rw [← e]
    exact hR _ (by rfl) (by rfl)
  · (try simp only [slots0, wipeS, backS, List.map_cons, List.map_nil, List.replicate, List.set_cons_zero, List.set_cons_succ, List.getElem?_cons_zero, List.getElem?_cons_succ, List.cons_append, List.nil_append]); (repeat ((conv => whnf); (first | (refine And.intro (by first | rfl | exact Nat.le_of_ble_eq_true rfl | decide | omega | (simp; done) | (simp; omega)) ?_) | (refine rec_t (by first | (simp; done) | (simp; omega) | omega) (fun _ => ?_)) | (refine rec_f (by first | (simp; done) | (simp; omega) | omega) (fun _ => ?_)) | (refine opt_i (gLen_str (by first | (simp; done) | (simp; omega) | omega)) ?_) | (refine opt_i (gDiv_pos (by first | (simp; done) | (simp; omega) | omega) (by first | (simp; done) | (simp; omega) | omega)) ?_) | (refine opt_i (gMd_pos (by first | (simp; done) | (simp; omega) | omega)) ?_)))); (conv => whnf)
    refine ⟨rs.map (endOf as), by rw [List.map_map]; rfl, by simp; omega, fun m hm1 hm2 => ?_⟩
    (try simp only [slots0, wipeS, backS, List.map_cons, List.map_nil, List.replicate, List.set_cons_zero, List.set_cons_succ, List.getElem?_cons_zero, List.getElem?_cons_succ, List.cons_append, List.nil_append]); (repeat ((conv => whnf); (first | (refine And.intro (by first | rfl | exact Nat.le_of_ble_eq_true rfl | decide | omega | (simp; done) | (simp; omega)) ?_) | (refine rec_t (by first | (simp; done) | (simp; omega) | omega) (fun _ => ?_)) | (refine rec_f (by first | (simp; done) | (simp; omega) | omega) (fun _ => ?_)) | (refine opt_i (gLen_str (by first | (simp; done) | (simp; omega) | omega)) ?_) | (refine opt_i (gDiv_pos (by first | (simp; done) | (simp; omega) | omega) (by first | (simp; done) | (simp; omega) | omega)) ?_) | (refine opt_i (gMd_pos (by first | (simp; done) | (simp; omega) | omega)) ?_)))); (conv => whnf)
    exact k m hm1 hm2
theorem zip_names : ∀ {as : Arr} {rs : List Row}, rs.map (·.1) = as.map (·.1) → ∀ p ∈ as.zip rs, p.1.1 = p.2.1
  | [], _, _, p, h => by simp at h
  | _ :: _, [], e, _, _ => by simp at e
  | a :: as, r :: rs, e, p, h => by
    simp only [List.map_cons, List.cons.injEq] at e
    rw [List.zip_cons_cons] at h
    rcases List.mem_cons.mp h with h | h
    · subst h
      exact e.1.symm
    · exact zip_names e.2 p h
theorem zip_snd : ∀ {as : Arr} {rs : List Row}, as.length = rs.length → (as.zip rs).map (·.2) = rs
  | [], [], _ => rfl
  | [], _ :: _, h => by simp at h
  | _ :: _, [], h => by simp at h
  | a :: as, r :: rs, h => by
    rw [List.zip_cons_cons, List.map_cons, zip_snd (by simpa using h)]
theorem pairs_zip : ∀ (as : Arr) (rs : List Row), pairsD (as.map elD) (rs.map rowD) = (as.zip rs).map fun p => D.tup [elD p.1, rowD p.2]
  | [], _ => rfl
  | _ :: _, [] => rfl
  | a :: as, r :: rs => by
    show D.tup [elD a, rowD r] :: pairsD (as.map elD) (rs.map rowD) = _
    rw [pairs_zip as rs]
    rfl
end
end K22
end
section
set_option maxHeartbeats 1000000
namespace K22
open PySem DL L2
def layP : Lay → PyData
  | .up => .str "up"
  | .down => .str "down"
  | .ring k => .tuple [.str "ring", .int k]
theorem toP_lay (l : Lay) : toP (layD l) = some (layP l) := by cases l <;> rfl
def rowP (r : Row) : PyData := .tuple [.str r.1, .int r.2.1, layP r.2.2]
theorem toP_row (r : Row) : toP (rowD r) = some (rowP r) := by
  show Option.map PyData.tuple (match toP (.str r.1), (match toP (.int r.2.1), (match toP (layD r.2.2), toPL [] with
      | some x, some xs => some (x :: xs)
      | _, _ => none) with
    | some x, some xs => some (x :: xs)
    | _, _ => none) with
    | some x, some xs => some (x :: xs)
    | _, _ => none) = _
  rw [toP_lay]
  rfl
theorem toPL_rows : ∀ rs : List Row, toPL (rs.map rowD) = some (rs.map rowP)
  | [] => rfl
  | r :: rs => by
    show (match toP (rowD r), toPL (rs.map rowD) with
      | some x, some xs => some (x :: xs)
      | _, _ => none) = _
    rw [toP_row, toPL_rows rs]
    rfl
theorem lay_can (l : Lay) : PyData.canLay0 (layP l) = true ∧ PyData.depth (layP l) ≤ 1 := by
  cases l with
  | up => exact ⟨okU, by decide⟩
  | down => exact ⟨okD, by decide⟩
  | ring k => exact ⟨by show (PyData.strOk "ring" && (true && true)) = true; rw [okR]; rfl, by show max 0 (max 0 0) + 1 ≤ 1; decide⟩
theorem rows_can : ∀ {rs : List Row}, (∀ r ∈ rs, PyData.strOk r.1 = true) → PyData.canLayAll0 (rs.map rowP) = true ∧ PyData.depthAll (rs.map rowP) ≤ 2
  | [], _ => ⟨rfl, by decide⟩
  | r :: rs, h => by
    obtain ⟨h1, h2⟩ := rows_can (rs := rs) fun x hx => h x (List.mem_cons_of_mem _ hx)
    obtain ⟨l1, l2⟩ := lay_can r.2.2
    constructor
    · show ((PyData.strOk r.1 && (true && (PyData.canLay0 (layP r.2.2) && true))) && PyData.canLayAll0 (rs.map rowP)) = true
      rw [h r List.mem_cons_self, l1, h1]
      rfl
    · show max (max 0 (max 0 (max (PyData.depth (layP r.2.2)) 0)) + 1) (PyData.depthAll (rs.map rowP)) ≤ 2
      omega
theorem eqv_lay (l m : Lay) : PyData.eqv (layP l) (layP m) = true ↔ l = m := by
  cases l <;> cases m
  · exact ⟨fun _ => rfl, fun _ => by decide +kernel⟩
  · exact ⟨fun h => absurd h (by decide +kernel), fun h => by cases h⟩
  · exact ⟨fun h => absurd h (by show ¬ (false = true); simp), fun h => by cases h⟩
  · exact ⟨fun h => absurd h (by decide +kernel), fun h => by cases h⟩
  · exact ⟨fun _ => rfl, fun _ => by decide +kernel⟩
  · exact ⟨fun h => absurd h (by show ¬ (false = true); simp), fun h => by cases h⟩
  · exact ⟨fun h => absurd h (by show ¬ (false = true); simp), fun h => by cases h⟩
  · exact ⟨fun h => absurd h (by show ¬ (false = true); simp), fun h => by cases h⟩
  · rename_i a b
    have e : PyData.eqv (layP (.ring a)) (layP (.ring b)) = ((("ring" : Str) == "ring") && ((a == b) && true)) := rfl
    rw [e]
    simp
theorem eqv_rows : ∀ rs ms : List Row, PyData.eqvAll (rs.map rowP) (ms.map rowP) = true ↔ rs = ms
  | [], [] => by simp [PyData.eqvAll]
  | [], _ :: _ => ⟨fun h => absurd (show false = true from h) (by simp), fun h => by cases h⟩
  | _ :: _, [] => ⟨fun h => absurd (show false = true from h) (by simp), fun h => by cases h⟩
  | r :: rs, m :: ms => by
    have e : PyData.eqvAll ((r :: rs).map rowP) ((m :: ms).map rowP) = (((r.1 == m.1) && ((r.2.1 == m.2.1) && (PyData.eqv (layP r.2.2) (layP m.2.2) && true))) && PyData.eqvAll (rs.map rowP) (ms.map rowP)) := rfl
    rw [e, Bool.and_eq_true, eqv_rows rs ms]
    simp only [Bool.and_eq_true, beq_iff_eq, eqv_lay, and_true]
    constructor
    · rintro ⟨⟨h1, h2, h3⟩, h4⟩
      rw [show r = m from Prod.ext h1 (Prod.ext h2 h3), h4]
    · intro h
      cases h
      exact ⟨⟨rfl, rfl, rfl⟩, rfl⟩
theorem gEq_rows {rs ms : List Row} (h1 : ∀ r ∈ rs, PyData.strOk r.1 = true) (h2 : ∀ r ∈ ms, PyData.strOk r.1 = true) : ∃ b, gEq (.tup (rs.map rowD)) (.tup (ms.map rowD)) = some (.bl b) ∧ (b = true ↔ rs = ms) := by
  obtain ⟨a1, a2⟩ := rows_can h1
  obtain ⟨b1, b2⟩ := rows_can h2
  have e1 : toP (.tup (rs.map rowD)) = some (.tuple (rs.map rowP)) := by
    show (toPL (rs.map rowD)).map PyData.tuple = _
    rw [toPL_rows]
    rfl
  have e2 : toP (.tup (ms.map rowD)) = some (.tuple (ms.map rowP)) := by
    show (toPL (ms.map rowD)).map PyData.tuple = _
    rw [toPL_rows]
    rfl
  have s1 : SeqAt.shaped (.tuple (rs.map rowP)) = true := by
    show (PyData.canLayAll0 (rs.map rowP) && decide (PyData.depthAll (rs.map rowP) + 1 ≤ 64)) = true
    rw [a1, decide_eq_true (by omega)]
    rfl
  have s2 : SeqAt.shaped (.tuple (ms.map rowP)) = true := by
    show (PyData.canLayAll0 (ms.map rowP) && decide (PyData.depthAll (ms.map rowP) + 1 ≤ 64)) = true
    rw [b1, decide_eq_true (by omega)]
    rfl
  exact ⟨_, gEq_of e1 e2 s1 s2, eqv_rows rs ms⟩
def arrP (as : Arr) : List PyData := as.map fun a => .tuple [.str a.1, .int a.2]
theorem toPL_arr : ∀ as : Arr, toPL (as.map elD) = some (arrP as)
  | [] => rfl
  | a :: as => by
    show (match toP (elD a), toPL (as.map elD) with
      | some x, some xs => some (x :: xs)
      | _, _ => none) = _
    rw [toPL_arr as]
    rfl
theorem arr_can : ∀ {as : Arr}, (∀ a ∈ as, PyData.strOk a.1 = true) → PyData.canLayAll0 (arrP as) = true ∧ PyData.depthAll (arrP as) ≤ 1
  | [], _ => ⟨rfl, by decide⟩
  | a :: as, h => by
    obtain ⟨h1, h2⟩ := arr_can (as := as) fun x hx => h x (List.mem_cons_of_mem _ hx)
    constructor
    · show ((PyData.strOk a.1 && (true && true)) && PyData.canLayAll0 (arrP as)) = true
      rw [h a List.mem_cons_self, h1]
      rfl
    · show max (max 0 (max 0 0) + 1) (PyData.depthAll (arrP as)) ≤ 1
      omega
theorem eqv_arr : ∀ as : Arr, PyData.eqvAll (arrP as) (arrP as) = true
  | [] => rfl
  | a :: as => by
    show (((a.1 == a.1) && ((a.2 == a.2) && true)) && PyData.eqvAll (arrP as) (arrP as)) = true
    rw [eqv_arr as]
    simp
theorem gEq_arr {as : Arr} (ok : ArrOk as) : gEq (arrD as) (arrD as) = some (.bl true) := by
  obtain ⟨a1, a2⟩ := arr_can fun a ha => (ok.names a ha).ok
  have e1 : toP (arrD as) = some (.tuple (arrP as)) := by
    show (toPL (as.map elD)).map PyData.tuple = _
    rw [toPL_arr]
    rfl
  have s1 : SeqAt.shaped (.tuple (arrP as)) = true := by
    show (PyData.canLayAll0 (arrP as) && decide (PyData.depthAll (arrP as) + 1 ≤ 64)) = true
    rw [a1, decide_eq_true (by omega)]
    rfl
  rw [gEq_of e1 e1 s1 s1]
  have e3 : PyData.eqv (.tuple (arrP as)) (.tuple (arrP as)) = PyData.eqvAll (arrP as) (arrP as) := rfl
  rw [e3, eqv_arr]
def loopsP (nm : Str) (d : Int) : PyData := .tuple [.tuple [.int 1, .tuple [.tuple [.str nm, .int 0, .int d, .tuple []]]]]
theorem sh_loops {nm : Str} {d : Int} (h : PyData.strOk nm = true) : SeqAt.shaped (loopsP nm d) = true := by
  unfold SeqAt.shaped loopsP
  simp [PyData.canLay0, PyData.canLayAll0, h]
  exact Nat.le_of_ble_eq_true rfl
theorem eq_loops {nm : Str} {d d' : Int} (h : PyData.strOk nm = true) : gEq (loopsD nm d) (loopsD nm d') = some (.bl (d == d')) := by
  rw [gEq_of (x := loopsP nm d) (y := loopsP nm d') rfl rfl (sh_loops h) (sh_loops h)]
  have e : PyData.eqv (loopsP nm d) (loopsP nm d') = ((true && ((((nm == nm) && (true && ((d == d') && (true && true)))) && true) && true)) && true) := rfl
  rw [e]
  simp
theorem eq_none : gEq (.tup []) (.tup []) = some (.bl true) := rfl
section
variable {n : Nat} {q : D → Nat → Prop} {as : Arr} {lo ou wr lo' ou' wr' : D} {rs ms : List Row}
/-- the answer of == of two programs -/
def EqP (lo ou lo' ou' : D) (b : Bool) : Prop := (gEq lo lo' = some (.bl false) ∧ b = false) ∨ (gEq lo lo' = some (.bl true) ∧ gEq ou ou' = some (.bl b))
theorem s_eq_prog {b : Bool} (ok : ArrOk as) (h : EqP lo ou lo' ou' b) (k : q (.bl b) n) : w_Program___eq__ [progG as lo ou wr, progG as lo' ou' wr'] n q := by
  unfold w_Program___eq__
  (try simp only [slots0, wipeS, backS, List.map_cons, List.map_nil, List.replicate, List.set_cons_zero, List.set_cons_succ, List.getElem?_cons_zero, List.getElem?_cons_succ, List.cons_append, List.nil_append]); (repeat ((conv => whnf); (first | (refine And.intro (by first | rfl | exact Nat.le_of_ble_eq_true rfl | decide | omega | (simp; done) | (simp; omega)) ?_) | (refine rec_t (by first | (simp; done) | (simp; omega) | omega) (fun _ => ?_)) | (refine rec_f (by first | (simp; done) | (simp; omega) | omega) (fun _ => ?_)) | (refine opt_i (gLen_str (by first | (simp; done) | (simp; omega) | omega)) ?_) | (refine opt_i (gDiv_pos (by first | (simp; done) | (simp; omega) | omega) (by first | (simp; done) | (simp; omega) | omega)) ?_) | (refine opt_i (gMd_pos (by first | (simp; done) | (simp; omega) | omega)) ?_)))); (conv => whnf)
  refine opt_i (gEq_arr ok) ?_
  (try simp only [slots0, wipeS, backS, List.map_cons, List.map_nil, List.replicate, List.set_cons_zero, List.set_cons_succ, List.getElem?_cons_zero, List.getElem?_cons_succ, List.cons_append, List.nil_append]); (repeat ((conv => whnf); (first | (refine And.intro (by first | rfl | exact Nat.le_of_ble_eq_true rfl | decide | omega | (simp; done) | (simp; omega)) ?_) | (refine rec_t (by first | (simp; done) | (simp; omega) | omega) (fun _ => ?_)) | (refine rec_f (by first | (simp; done) | (simp; omega) | omega) (fun _ => ?_)) | (refine opt_i (gLen_str (by first | (simp; done) | (simp; omega) | omega)) ?_) | (refine opt_i (gDiv_pos (by first | (simp; done) | (simp; omega) | omega) (by first | (simp; done) | (simp; omega) | omega)) ?_) | (refine opt_i (gMd_pos (by first | (simp; done) | (simp; omega) | omega)) ?_)))); (conv => whnf)
  rcases h with ⟨h, rfl⟩ | ⟨h1, h2⟩
  · refine opt_i h ?_
    (try simp only [slots0, wipeS, backS, List.map_cons, List.map_nil, List.replicate, List.set_cons_zero, List.set_cons_succ, List.getElem?_cons_zero, List.getElem?_cons_succ, List.cons_append, List.nil_append]); (repeat ((conv => whnf); (first | (refine And.intro (by first | rfl | exact Nat.le_of_ble_eq_true rfl | decide | omega | (simp; done) | (simp; omega)) ?_) | (refine rec_t (by first | (simp; done) | (simp; omega) | omega) (fun _ => ?_)) | (refine rec_f (by first | (simp; done) | (simp; omega) | omega) (fun _ => ?_)) | (refine opt_i (gLen_str (by first | (simp; done) | (simp; omega) | omega)) ?_) | (refine opt_i (gDiv_pos (by first | (simp; done) | (simp; omega) | omega) (by first | (simp; done) | (simp; omega) | omega)) ?_) | (refine opt_i (gMd_pos (by first | (simp; done) | (simp; omega) | omega)) ?_)))); (conv => whnf)
    exact k
  · refine opt_i h1 ?_
    (try simp only [slots0, wipeS, backS, List.map_cons, List.map_nil, List.replicate, List.set_cons_zero, List.set_cons_succ, List.getElem?_cons_zero, List.getElem?_cons_succ, List.cons_append, List.nil_append]); (repeat ((conv => whnf); (first | (refine And.intro (by first | rfl | exact Nat.le_of_ble_eq_true rfl | decide | omega | (simp; done) | (simp; omega)) ?_) | (refine rec_t (by first | (simp; done) | (simp; omega) | omega) (fun _ => ?_)) | (refine rec_f (by first | (simp; done) | (simp; omega) | omega) (fun _ => ?_)) | (refine opt_i (gLen_str (by first | (simp; done) | (simp; omega) | omega)) ?_) | (refine opt_i (gDiv_pos (by first | (simp; done) | (simp; omega) | omega) (by first | (simp; done) | (simp; omega) | omega)) ?_) | (refine opt_i (gMd_pos (by first | (simp; done) | (simp; omega) | omega)) ?_)))); (conv => whnf)
    refine opt_i h2 ?_
    exact k
theorem s_eq_pl {x y : D} {b : Bool} (ok : ArrOk as) (hx : PlG as lo ou wr rs x) (hy : PlG as lo' ou' wr' ms y) (hr : ∀ r ∈ rs, NameOk r.1) (hm : ∀ r ∈ ms, NameOk r.1) (h : EqP lo ou lo' ou' b) (k : ∀ c : Bool, (c = true ↔ b = true ∧ rs = ms) → q (.bl c) n) : w_Placement___eq__ [x, y] n q := by
  obtain ⟨sp, rfl⟩ := hx.ex
  obtain ⟨sp', rfl⟩ := hy.ex
  unfold w_Placement___eq__
  (try simp only [slots0, wipeS, backS, List.map_cons, List.map_nil, List.replicate, List.set_cons_zero, List.set_cons_succ, List.getElem?_cons_zero, List.getElem?_cons_succ, List.cons_append, List.nil_append]); (repeat ((conv => whnf); (first | (refine And.intro (by first | rfl | exact Nat.le_of_ble_eq_true rfl | decide | omega | (simp; done) | (simp; omega)) ?_) | (refine rec_t (by first | (simp; done) | (simp; omega) | omega) (fun _ => ?_)) | (refine rec_f (by first | (simp; done) | (simp; omega) | omega) (fun _ => ?_)) | (refine opt_i (gLen_str (by first | (simp; done) | (simp; omega) | omega)) ?_) | (refine opt_i (gDiv_pos (by first | (simp; done) | (simp; omega) | omega) (by first | (simp; done) | (simp; omega) | omega)) ?_) | (refine opt_i (gMd_pos (by first | (simp; done) | (simp; omega) | omega)) ?_)))); (conv => whnf)
  refine ⟨List.mem_cons_self, s_eq_prog ok h ?_⟩
  cases b with
  | false =>
    (try simp only [slots0, wipeS, backS, List.map_cons, List.map_nil, List.replicate, List.set_cons_zero, List.set_cons_succ, List.getElem?_cons_zero, List.getElem?_cons_succ, List.cons_append, List.nil_append]); (repeat ((conv => whnf); (first | (refine And.intro (by first | rfl | exact Nat.le_of_ble_eq_true rfl | decide | omega | (simp; done) | (simp; omega)) ?_) | (refine rec_t (by first | (simp; done) | (simp; omega) | omega) (fun _ => ?_)) | (refine rec_f (by first | (simp; done) | (simp; omega) | omega) (fun _ => ?_)) | (refine opt_i (gLen_str (by first | (simp; done) | (simp; omega) | omega)) ?_) | (refine opt_i (gDiv_pos (by first | (simp; done) | (simp; omega) | omega) (by first | (simp; done) | (simp; omega) | omega)) ?_) | (refine opt_i (gMd_pos (by first | (simp; done) | (simp; omega) | omega)) ?_)))); (conv => whnf)
    exact k false (by simp)
  | true =>
    (try simp only [slots0, wipeS, backS, List.map_cons, List.map_nil, List.replicate, List.set_cons_zero, List.set_cons_succ, List.getElem?_cons_zero, List.getElem?_cons_succ, List.cons_append, List.nil_append]); (repeat ((conv => whnf); (first | (refine And.intro (by first | rfl | exact Nat.le_of_ble_eq_true rfl | decide | omega | (simp; done) | (simp; omega)) ?_) | (refine rec_t (by first | (simp; done) | (simp; omega) | omega) (fun _ => ?_)) | (refine rec_f (by first | (simp; done) | (simp; omega) | omega) (fun _ => ?_)) | (refine opt_i (gLen_str (by first | (simp; done) | (simp; omega) | omega)) ?_) | (refine opt_i (gDiv_pos (by first | (simp; done) | (simp; omega) | omega) (by first | (simp; done) | (simp; omega) | omega)) ?_) | (refine opt_i (gMd_pos (by first | (simp; done) | (simp; omega) | omega)) ?_)))); (conv => whnf)
    obtain ⟨c, e, hc⟩ := gEq_rows (fun r hr' => (hr r hr').ok) (fun r hr' => (hm r hr').ok)
    refine opt_i e ?_
    exact k c (by simpa using hc)
end
end K22
end
section
set_option maxHeartbeats 1000000
namespace K22
open PySem DL L2
/-- names as those of the program, layouts in order -/
structure RowsS (as : Arr) (rs : List Row) : Prop where
  names : rs.map (·.1) = as.map (·.1)
  lay : ∀ r ∈ rs, LayOk r.2.2
def lowOf (as : Arr) (r : Row) : Int := r.2.1 + low r.2.2 (szOf as r.1)
def Good (as : Arr) (rs : List Row) : Prop := ∀ r ∈ rs, 0 ≤ lowOf as r
theorem RowsS.len {as : Arr} {rs : List Row} (h : RowsS as rs) : rs.length = as.length := by
  have := congrArg List.length h.names
  simpa using this
theorem RowsS.mem {as : Arr} {rs : List Row} (h : RowsS as rs) (ok : ArrOk as) {r : Row} (hr : r ∈ rs) : (r.1, szOf as r.1) ∈ as := by
  have h1 : r.1 ∈ as.map (·.1) := by
    rw [← h.names]
    exact List.mem_map.mpr ⟨r, hr, rfl⟩
  obtain ⟨a, ha, e⟩ := List.mem_map.mp h1
  have := szOf_eq (nm := a.1) (sz := a.2) ok.nodup ha
  rw [← e, this]
  exact ha
theorem RowsS.ok {as : Arr} {rs : List Row} (h : RowsS as rs) (ok : ArrOk as) (g : Good as rs) : RowsOk as rs :=
  ⟨fun r hr => ⟨_, h.mem ok hr, g r hr, h.lay r hr⟩, by rw [h.names]⟩
theorem RowsIn.s {as : Arr} {rs : List Row} (h : RowsIn as rs) : RowsS as rs := ⟨h.names, fun r hr => (h.each r hr).lay⟩
def newFirst (ps : Arr) (r : Row) : Int := ((ps.find? fun p => p.1 == r.1).map (·.2)).getD r.2.1
def mvP (ps : Arr) (r : Row) : Row := (r.1, newFirst ps r, r.2.2)
theorem RowsS.mv {as : Arr} {rs : List Row} (h : RowsS as rs) (ps : Arr) : RowsS as (rs.map (mvP ps)) :=
  ⟨by rw [List.map_map]; exact h.names, fun r hr => by
    obtain ⟨x, hx, rfl⟩ := List.mem_map.mp hr
    exact h.lay x hx⟩
def fKeyE : D → Key
  | .tup [.str a, _] => .inr a
  | _ => .inl 0
def fValE : D → D
  | .tup [_, b] => b
  | _ => .non
theorem keys_el (ps : Arr) : (ps.map elD).map fKeyE = ps.map fun p => (.inr p.1 : Key) := by
  rw [List.map_map]
  rfl
theorem vals_el (ps : Arr) : (ps.map elD).map fValE = ps.map fun p => D.int p.2 := by
  rw [List.map_map]
  rfl
theorem keys_el_nodup : ∀ {ps : Arr}, (ps.map (·.1)).Nodup → (ps.map fun p => (.inr p.1 : Key)).Nodup
  | [], _ => List.nodup_nil
  | p :: ps, h => by
    rw [List.map_cons, List.nodup_cons] at h ⊢
    refine ⟨fun z => h.1 ?_, keys_el_nodup h.2⟩
    obtain ⟨x, hx, e⟩ := List.mem_map.mp z
    exact List.mem_map.mpr ⟨x, hx, Sum.inr.inj e⟩
theorem find_el (nm : Str) (f : Int) : ∀ ps : Arr, (findD (.inr nm) (ps.map fun p => (.inr p.1 : Key)) (ps.map fun p => D.int p.2)).getD (.int f) = .int (((ps.find? fun p => p.1 == nm).map (·.2)).getD f)
  | [] => rfl
  | p :: ps => by
    show (if (.inr p.1 : Key) = .inr nm then some (D.int p.2) else findD (.inr nm) (ps.map fun p => (.inr p.1 : Key)) (ps.map fun p => D.int p.2)).getD (.int f) = _
    by_cases c : p.1 = nm
    · rw [if_pos (by rw [c]), List.find?_cons_of_pos (by simpa using c)]
      rfl
    · rw [if_neg (fun z => c (Sum.inr.inj z)), List.find?_cons_of_neg (by simpa using c)]
      exact find_el nm f ps
section
variable {n : Nat} {q : D → Nat → Prop} {r : RXF} {as : Arr} {lo ou wr : D} {rs : List Row} {ps : Arr}
theorem s_are_placesF (ok : ArrOk as) (s : RowsS as rs) (bad : ¬ Good as rs) (k : q (.bl false) n) : w_are_places [progG as lo ou wr, .tup (rs.map rowD)] n q := by
  have hl := s.len
  have h1 := ok.lo
  have h2 := ok.hi
  unfold w_are_places
  (try simp only [slots0, wipeS, backS, List.map_cons, List.map_nil, List.replicate, List.set_cons_zero, List.set_cons_succ, List.getElem?_cons_zero, List.getElem?_cons_succ, List.cons_append, List.nil_append]); (repeat ((conv => whnf); (first | (refine And.intro (by first | rfl | exact Nat.le_of_ble_eq_true rfl | decide | omega | (simp; done) | (simp; omega)) ?_) | (refine rec_t (by first | (simp; done) | (simp; omega) | omega) (fun _ => ?_)) | (refine rec_f (by first | (simp; done) | (simp; omega) | omega) (fun _ => ?_)) | (refine opt_i (gLen_str (by first | (simp; done) | (simp; omega) | omega)) ?_) | (refine opt_i (gDiv_pos (by first | (simp; done) | (simp; omega) | omega) (by first | (simp; done) | (simp; omega) | omega)) ?_) | (refine opt_i (gMd_pos (by first | (simp; done) | (simp; omega) | omega)) ?_)))); (conv => whnf)
  refine loop_inv (fun i ρ m => m = n ∧ (∀ x ∈ rs.take i, 0 ≤ lowOf as x) ∧ ∃ s2 s3 s4 s5 : DL.Slot, ρ = [.val (progG as lo ou wr), .val (.tup (rs.map rowD)), s2, s3, s4, s5, .un]) _ (fun i e ρ m he hI Z hZ => ?_) (fun ρ m hI => ?_) _ _ ⟨rfl, by simp, .un, .un, .un, .un, rfl⟩
  · obtain ⟨rfl, hg, s2, s3, s4, s5, rfl⟩ := hI
    rw [List.getElem?_map] at he
    obtain ⟨x, hx, rfl⟩ := Option.map_eq_some_iff.mp he
    have hm : x ∈ rs := List.mem_of_getElem? hx
    have hs := s.mem ok hm
    have hin : x.1 ∈ as.map (·.1) := List.mem_map.mpr ⟨_, hs, rfl⟩
    have hlay := s.lay x hm
    (try simp only [slots0, wipeS, backS, List.map_cons, List.map_nil, List.replicate, List.set_cons_zero, List.set_cons_succ, List.getElem?_cons_zero, List.getElem?_cons_succ, List.cons_append, List.nil_append]); (repeat ((conv => whnf); (first | (refine And.intro (by first | rfl | exact Nat.le_of_ble_eq_true rfl | decide | omega | (simp; done) | (simp; omega)) ?_) | (refine rec_t (by first | (simp; done) | (simp; omega) | omega) (fun _ => ?_)) | (refine rec_f (by first | (simp; done) | (simp; omega) | omega) (fun _ => ?_)) | (refine opt_i (gLen_str (by first | (simp; done) | (simp; omega) | omega)) ?_) | (refine opt_i (gDiv_pos (by first | (simp; done) | (simp; omega) | omega) (by first | (simp; done) | (simp; omega) | omega)) ?_) | (refine opt_i (gMd_pos (by first | (simp; done) | (simp; omega) | omega)) ?_)))); (conv => whnf)
    apply s_contains hin h2
    (try simp only [slots0, wipeS, backS, List.map_cons, List.map_nil, List.replicate, List.set_cons_zero, List.set_cons_succ, List.getElem?_cons_zero, List.getElem?_cons_succ, List.cons_append, List.nil_append]); (repeat ((conv => whnf); (first | (refine And.intro (by first | rfl | exact Nat.le_of_ble_eq_true rfl | decide | omega | (simp; done) | (simp; omega)) ?_) | (refine rec_t (by first | (simp; done) | (simp; omega) | omega) (fun _ => ?_)) | (refine rec_f (by first | (simp; done) | (simp; omega) | omega) (fun _ => ?_)) | (refine opt_i (gLen_str (by first | (simp; done) | (simp; omega) | omega)) ?_) | (refine opt_i (gDiv_pos (by first | (simp; done) | (simp; omega) | omega) (by first | (simp; done) | (simp; omega) | omega)) ?_) | (refine opt_i (gMd_pos (by first | (simp; done) | (simp; omega) | omega)) ?_)))); (conv => whnf)
    apply s_is_integer
    (try simp only [slots0, wipeS, backS, List.map_cons, List.map_nil, List.replicate, List.set_cons_zero, List.set_cons_succ, List.getElem?_cons_zero, List.getElem?_cons_succ, List.cons_append, List.nil_append]); (repeat ((conv => whnf); (first | (refine And.intro (by first | rfl | exact Nat.le_of_ble_eq_true rfl | decide | omega | (simp; done) | (simp; omega)) ?_) | (refine rec_t (by first | (simp; done) | (simp; omega) | omega) (fun _ => ?_)) | (refine rec_f (by first | (simp; done) | (simp; omega) | omega) (fun _ => ?_)) | (refine opt_i (gLen_str (by first | (simp; done) | (simp; omega) | omega)) ?_) | (refine opt_i (gDiv_pos (by first | (simp; done) | (simp; omega) | omega) (by first | (simp; done) | (simp; omega) | omega)) ?_) | (refine opt_i (gMd_pos (by first | (simp; done) | (simp; omega) | omega)) ?_)))); (conv => whnf)
    apply s_is_layout hlay
    (try simp only [slots0, wipeS, backS, List.map_cons, List.map_nil, List.replicate, List.set_cons_zero, List.set_cons_succ, List.getElem?_cons_zero, List.getElem?_cons_succ, List.cons_append, List.nil_append]); (repeat ((conv => whnf); (first | (refine And.intro (by first | rfl | exact Nat.le_of_ble_eq_true rfl | decide | omega | (simp; done) | (simp; omega)) ?_) | (refine rec_t (by first | (simp; done) | (simp; omega) | omega) (fun _ => ?_)) | (refine rec_f (by first | (simp; done) | (simp; omega) | omega) (fun _ => ?_)) | (refine opt_i (gLen_str (by first | (simp; done) | (simp; omega) | omega)) ?_) | (refine opt_i (gDiv_pos (by first | (simp; done) | (simp; omega) | omega) (by first | (simp; done) | (simp; omega) | omega)) ?_) | (refine opt_i (gMd_pos (by first | (simp; done) | (simp; omega) | omega)) ?_)))); (conv => whnf)
    apply s_size_of ok hs
    (try simp only [slots0, wipeS, backS, List.map_cons, List.map_nil, List.replicate, List.set_cons_zero, List.set_cons_succ, List.getElem?_cons_zero, List.getElem?_cons_succ, List.cons_append, List.nil_append]); (repeat ((conv => whnf); (first | (refine And.intro (by first | rfl | exact Nat.le_of_ble_eq_true rfl | decide | omega | (simp; done) | (simp; omega)) ?_) | (refine rec_t (by first | (simp; done) | (simp; omega) | omega) (fun _ => ?_)) | (refine rec_f (by first | (simp; done) | (simp; omega) | omega) (fun _ => ?_)) | (refine opt_i (gLen_str (by first | (simp; done) | (simp; omega) | omega)) ?_) | (refine opt_i (gDiv_pos (by first | (simp; done) | (simp; omega) | omega) (by first | (simp; done) | (simp; omega) | omega)) ?_) | (refine opt_i (gMd_pos (by first | (simp; done) | (simp; omega) | omega)) ?_)))); (conv => whnf)
    apply s_low_high
    by_cases c : 0 ≤ x.2.1 + low x.2.2 (szOf as x.1)
    · (try simp only [slots0, wipeS, backS, List.map_cons, List.map_nil, List.replicate, List.set_cons_zero, List.set_cons_succ, List.getElem?_cons_zero, List.getElem?_cons_succ, List.cons_append, List.nil_append]); (repeat ((conv => whnf); (first | (refine And.intro (by first | rfl | exact Nat.le_of_ble_eq_true rfl | decide | omega | (simp [c]; done) | (simp [c]; omega)) ?_) | (refine rec_t (by first | (simp [c]; done) | (simp [c]; omega) | omega) (fun _ => ?_)) | (refine rec_f (by first | (simp [c]; done) | (simp [c]; omega) | omega) (fun _ => ?_)) | (refine opt_i (gLen_str (by first | (simp [c]; done) | (simp [c]; omega) | omega)) ?_) | (refine opt_i (gDiv_pos (by first | (simp [c]; done) | (simp [c]; omega) | omega) (by first | (simp [c]; done) | (simp [c]; omega) | omega)) ?_) | (refine opt_i (gMd_pos (by first | (simp [c]; done) | (simp [c]; omega) | omega)) ?_)))); (conv => whnf)
      refine hZ _ _ ⟨rfl, fun y hy => ?_, _, _, _, _, rfl⟩
      rw [List.take_succ, hx] at hy
      rcases List.mem_append.mp hy with hy | hy
      · exact hg y hy
      · simp at hy
        subst hy
        exact c
    · have c2 : x.2.1 + low x.2.2 (szOf as x.1) < 0 := by omega
      (try simp only [slots0, wipeS, backS, List.map_cons, List.map_nil, List.replicate, List.set_cons_zero, List.set_cons_succ, List.getElem?_cons_zero, List.getElem?_cons_succ, List.cons_append, List.nil_append]); (repeat ((conv => whnf); (first | (refine And.intro (by first | rfl | exact Nat.le_of_ble_eq_true rfl | decide | omega | (simp [c2]; done) | (simp [c2]; omega)) ?_) | (refine rec_t (by first | (simp [c2]; done) | (simp [c2]; omega) | omega) (fun _ => ?_)) | (refine rec_f (by first | (simp [c2]; done) | (simp [c2]; omega) | omega) (fun _ => ?_)) | (refine opt_i (gLen_str (by first | (simp [c2]; done) | (simp [c2]; omega) | omega)) ?_) | (refine opt_i (gDiv_pos (by first | (simp [c2]; done) | (simp [c2]; omega) | omega) (by first | (simp [c2]; done) | (simp [c2]; omega) | omega)) ?_) | (refine opt_i (gMd_pos (by first | (simp [c2]; done) | (simp [c2]; omega) | omega)) ?_)))); (conv => whnf)
      exact k
  · obtain ⟨rfl, hg, _⟩ := hI
    rw [List.length_map, List.take_length] at hg
    exact absurd hg bad
theorem s_PlacementN (ok : ArrOk as) (s : RowsS as rs) (bad : ¬ Good as rs) (k : r "NoPlacement" [] n) : wI_Placement___init__ [progG as lo ou wr, .tup (rs.map rowD)] n q r := by
  unfold wI_Placement___init__
  (try simp only [slots0, wipeS, backS, List.map_cons, List.map_nil, List.replicate, List.set_cons_zero, List.set_cons_succ, List.getElem?_cons_zero, List.getElem?_cons_succ, List.cons_append, List.nil_append]); (repeat ((conv => whnf); (first | (refine And.intro (by first | rfl | exact Nat.le_of_ble_eq_true rfl | decide | omega | (simp; done) | (simp; omega)) ?_) | (refine rec_t (by first | (simp; done) | (simp; omega) | omega) (fun _ => ?_)) | (refine rec_f (by first | (simp; done) | (simp; omega) | omega) (fun _ => ?_)) | (refine opt_i (gLen_str (by first | (simp; done) | (simp; omega) | omega)) ?_) | (refine opt_i (gDiv_pos (by first | (simp; done) | (simp; omega) | omega) (by first | (simp; done) | (simp; omega) | omega)) ?_) | (refine opt_i (gMd_pos (by first | (simp; done) | (simp; omega) | omega)) ?_)))); (conv => whnf)
  apply s_are_placesF ok s bad
  (try simp only [slots0, wipeS, backS, List.map_cons, List.map_nil, List.replicate, List.set_cons_zero, List.set_cons_succ, List.getElem?_cons_zero, List.getElem?_cons_succ, List.cons_append, List.nil_append]); (repeat ((conv => whnf); (first | (refine And.intro (by first | rfl | exact Nat.le_of_ble_eq_true rfl | decide | omega | (simp; done) | (simp; omega)) ?_) | (refine rec_t (by first | (simp; done) | (simp; omega) | omega) (fun _ => ?_)) | (refine rec_f (by first | (simp; done) | (simp; omega) | omega) (fun _ => ?_)) | (refine opt_i (gLen_str (by first | (simp; done) | (simp; omega) | omega)) ?_) | (refine opt_i (gDiv_pos (by first | (simp; done) | (simp; omega) | omega) (by first | (simp; done) | (simp; omega) | omega)) ?_) | (refine opt_i (gMd_pos (by first | (simp; done) | (simp; omega) | omega)) ?_)))); (conv => whnf)
  exact k
theorem s_movedP {x : D} (ok : ArrOk as) (h : PlG as lo ou wr rs x) (s : RowsS as rs) (nd : (ps.map (·.1)).Nodup) (hp : ps.length ≤ 6) (k1 : Good as (rs.map (mvP ps)) → ∀ y, PlG as lo ou wr (rs.map (mvP ps)) y → q y n)
    (k2 : ¬ Good as (rs.map (mvP ps)) → r "NoPlacement" [] n) : w_Placement_moved [x, .tup (ps.map elD)] n q r := by
  obtain ⟨sp, rfl⟩ := h.ex
  have hl := s.len
  have h1 := ok.lo
  have h2 := ok.hi
  unfold w_Placement_moved
  (try simp only [slots0, wipeS, backS, List.map_cons, List.map_nil, List.replicate, List.set_cons_zero, List.set_cons_succ, List.getElem?_cons_zero, List.getElem?_cons_succ, List.cons_append, List.nil_append]); (repeat ((conv => whnf); (first | (refine And.intro (by first | rfl | exact Nat.le_of_ble_eq_true rfl | decide | omega | (simp; done) | (simp; omega)) ?_) | (refine rec_t (by first | (simp; done) | (simp; omega) | omega) (fun _ => ?_)) | (refine rec_f (by first | (simp; done) | (simp; omega) | omega) (fun _ => ?_)) | (refine opt_i (gLen_str (by first | (simp; done) | (simp; omega) | omega)) ?_) | (refine opt_i (gDiv_pos (by first | (simp; done) | (simp; omega) | omega) (by first | (simp; done) | (simp; omega) | omega)) ?_) | (refine opt_i (gMd_pos (by first | (simp; done) | (simp; omega) | omega)) ?_)))); (conv => whnf)
  refine comp_dic fKeyE fValE _ _ _ (fun e he R hR => ?_) ?_ (by simp; omega) ?_
  · obtain ⟨p, hp', rfl⟩ := List.mem_map.mp he
    (try simp only [slots0, wipeS, backS, List.map_cons, List.map_nil, List.replicate, List.set_cons_zero, List.set_cons_succ, List.getElem?_cons_zero, List.getElem?_cons_succ, List.cons_append, List.nil_append]); (repeat ((conv => whnf); (first | (refine And.intro (by first | rfl | exact Nat.le_of_ble_eq_true rfl | decide | omega | (simp; done) | (simp; omega)) ?_) | (refine rec_t (by first | (simp; done) | (simp; omega) | omega) (fun _ => ?_)) | (refine rec_f (by first | (simp; done) | (simp; omega) | omega) (fun _ => ?_)) | (refine opt_i (gLen_str (by first | (simp; done) | (simp; omega) | omega)) ?_) | (refine opt_i (gDiv_pos (by first | (simp; done) | (simp; omega) | omega) (by first | (simp; done) | (simp; omega) | omega)) ?_) | (refine opt_i (gMd_pos (by first | (simp; done) | (simp; omega) | omega)) ?_)))); (conv => whnf)
    exact hR _ _ rfl (by rfl) (by rfl)
  · rw [List.nil_append, keys_el]
    exact keys_el_nodup nd
  · rw [List.nil_append, List.nil_append, keys_el, vals_el]
    (try simp only [slots0, wipeS, backS, List.map_cons, List.map_nil, List.replicate, List.set_cons_zero, List.set_cons_succ, List.getElem?_cons_zero, List.getElem?_cons_succ, List.cons_append, List.nil_append]); (repeat ((conv => whnf); (first | (refine And.intro (by first | rfl | exact Nat.le_of_ble_eq_true rfl | decide | omega | (simp; done) | (simp; omega)) ?_) | (refine rec_t (by first | (simp; done) | (simp; omega) | omega) (fun _ => ?_)) | (refine rec_f (by first | (simp; done) | (simp; omega) | omega) (fun _ => ?_)) | (refine opt_i (gLen_str (by first | (simp; done) | (simp; omega) | omega)) ?_) | (refine opt_i (gDiv_pos (by first | (simp; done) | (simp; omega) | omega) (by first | (simp; done) | (simp; omega) | omega)) ?_) | (refine opt_i (gMd_pos (by first | (simp; done) | (simp; omega) | omega)) ?_)))); (conv => whnf)
    simp only [slots0, wipeS, backS, List.map_cons, List.map_nil, List.replicate, List.set_cons_zero, List.set_cons_succ, List.getElem?_cons_zero, List.getElem?_cons_succ, List.cons_append, List.nil_append]
    refine comp_mapA rowD (fun r => rowD (mvP ps r)) _ _ (fun r' hr R hR => ?_) (by simp; omega) ?_
    · (try simp only [slots0, wipeS, backS, List.map_cons, List.map_nil, List.replicate, List.set_cons_zero, List.set_cons_succ, List.getElem?_cons_zero, List.getElem?_cons_succ, List.cons_append, List.nil_append]); (repeat ((conv => whnf); (first | (refine And.intro (by first | rfl | exact Nat.le_of_ble_eq_true rfl | decide | omega | (simp; done) | (simp; omega)) ?_) | (refine rec_t (by first | (simp; done) | (simp; omega) | omega) (fun _ => ?_)) | (refine rec_f (by first | (simp; done) | (simp; omega) | omega) (fun _ => ?_)) | (refine opt_i (gLen_str (by first | (simp; done) | (simp; omega) | omega)) ?_) | (refine opt_i (gDiv_pos (by first | (simp; done) | (simp; omega) | omega) (by first | (simp; done) | (simp; omega) | omega)) ?_) | (refine opt_i (gMd_pos (by first | (simp; done) | (simp; omega) | omega)) ?_)))); (conv => whnf)
      refine ⟨_, rfl, ?_⟩
      (try simp only [slots0, wipeS, backS, List.map_cons, List.map_nil, List.replicate, List.set_cons_zero, List.set_cons_succ, List.getElem?_cons_zero, List.getElem?_cons_succ, List.cons_append, List.nil_append]); (repeat ((conv => whnf); (first | (refine And.intro (by first | rfl | exact Nat.le_of_ble_eq_true rfl | decide | omega | (simp; done) | (simp; omega)) ?_) | (refine rec_t (by first | (simp; done) | (simp; omega) | omega) (fun _ => ?_)) | (refine rec_f (by first | (simp; done) | (simp; omega) | omega) (fun _ => ?_)) | (refine opt_i (gLen_str (by first | (simp; done) | (simp; omega) | omega)) ?_) | (refine opt_i (gDiv_pos (by first | (simp; done) | (simp; omega) | omega) (by first | (simp; done) | (simp; omega) | omega)) ?_) | (refine opt_i (gMd_pos (by first | (simp; done) | (simp; omega) | omega)) ?_)))); (conv => whnf)
      refine val3 ?_ (hR _ (by rfl) (by rfl))
      show D.tup [.str r'.1, ((findD (.inr r'.1) (ps.map fun p => (.inr p.1 : Key)) (ps.map fun p => D.int p.2)).getD (.int r'.2.1)), layD r'.2.2] = _
      rw [find_el]
      rfl
    · rw [List.nil_append]
      have e : (rs.map fun r => rowD (mvP ps r)) = (rs.map (mvP ps)).map rowD := by
        rw [List.map_map]
        rfl
      rw [e]
      have hlen : ((rs.map (mvP ps)).map rowD).length ≤ 6 := by simp; omega
      (try simp only [slots0, wipeS, backS, List.map_cons, List.map_nil, List.replicate, List.set_cons_zero, List.set_cons_succ, List.getElem?_cons_zero, List.getElem?_cons_succ, List.cons_append, List.nil_append]); (repeat ((conv => whnf); (first | (refine And.intro (by first | rfl | exact Nat.le_of_ble_eq_true rfl | decide | omega | (simp; done) | (simp; omega)) ?_) | (refine rec_t (by first | (simp; done) | (simp; omega) | omega) (fun _ => ?_)) | (refine rec_f (by first | (simp; done) | (simp; omega) | omega) (fun _ => ?_)) | (refine opt_i (gLen_str (by first | (simp; done) | (simp; omega) | omega)) ?_) | (refine opt_i (gDiv_pos (by first | (simp; done) | (simp; omega) | omega) (by first | (simp; done) | (simp; omega) | omega)) ?_) | (refine opt_i (gMd_pos (by first | (simp; done) | (simp; omega) | omega)) ?_)))); (conv => whnf)
      simp only [List.append_nil]
      by_cases g : Good as (rs.map (mvP ps))
      · exact s_Placement ok (List.Perm.refl _) (s.mv ps).names ((s.mv ps).ok ok g) fun y hy => k1 g y hy
      · exact s_PlacementN ok (s.mv ps) g (k2 g)
theorem s_law_moved {x : D} (ok : ArrOk as) (h : PlG as lo ou wr rs x) (s : RowsS as rs) (nd : (ps.map (·.1)).Nodup) (hp : ps.length ≤ 6) (k1 : Good as (rs.map (mvP ps)) → ∀ y, PlG as lo ou wr (rs.map (mvP ps)) y → q y n)
    (k2 : ¬ Good as (rs.map (mvP ps)) → r "NoPlacement" [] n) : w__law_moved [x, .lst (ps.map elD)] n q r := by
  obtain ⟨sp, hx⟩ := h.ex
  have fin : ∀ z, z = D.tup (ps.map elD) → w_Placement_moved [x, z] n q r := fun z e => by
    rw [e]
    exact s_movedP ok h s nd hp k1 k2
  subst hx
  unfold w__law_moved
  match ps, hp with
  | [], _ =>
    (try simp only [slots0, wipeS, backS, List.map_cons, List.map_nil, List.replicate, List.set_cons_zero, List.set_cons_succ, List.getElem?_cons_zero, List.getElem?_cons_succ, List.cons_append, List.nil_append]); (repeat ((conv => whnf); (first | (refine And.intro (by first | rfl | exact Nat.le_of_ble_eq_true rfl | decide | omega | (simp; done) | (simp; omega)) ?_) | (refine rec_t (by first | (simp; done) | (simp; omega) | omega) (fun _ => ?_)) | (refine rec_f (by first | (simp; done) | (simp; omega) | omega) (fun _ => ?_)) | (refine opt_i (gLen_str (by first | (simp; done) | (simp; omega) | omega)) ?_) | (refine opt_i (gDiv_pos (by first | (simp; done) | (simp; omega) | omega) (by first | (simp; done) | (simp; omega) | omega)) ?_) | (refine opt_i (gMd_pos (by first | (simp; done) | (simp; omega) | omega)) ?_)))); (conv => whnf)
    exact fin _ rfl
  | [a], _ =>
    (try simp only [slots0, wipeS, backS, List.map_cons, List.map_nil, List.replicate, List.set_cons_zero, List.set_cons_succ, List.getElem?_cons_zero, List.getElem?_cons_succ, List.cons_append, List.nil_append]); (repeat ((conv => whnf); (first | (refine And.intro (by first | rfl | exact Nat.le_of_ble_eq_true rfl | decide | omega | (simp; done) | (simp; omega)) ?_) | (refine rec_t (by first | (simp; done) | (simp; omega) | omega) (fun _ => ?_)) | (refine rec_f (by first | (simp; done) | (simp; omega) | omega) (fun _ => ?_)) | (refine opt_i (gLen_str (by first | (simp; done) | (simp; omega) | omega)) ?_) | (refine opt_i (gDiv_pos (by first | (simp; done) | (simp; omega) | omega) (by first | (simp; done) | (simp; omega) | omega)) ?_) | (refine opt_i (gMd_pos (by first | (simp; done) | (simp; omega) | omega)) ?_)))); (conv => whnf)
    exact fin _ rfl
  | [a, b], _ =>
    (try simp only [slots0, wipeS, backS, List.map_cons, List.map_nil, List.replicate, List.set_cons_zero, List.set_cons_succ, List.getElem?_cons_zero, List.getElem?_cons_succ, List.cons_append, List.nil_append]); (repeat ((conv => whnf); (first | (refine And.intro (by first | rfl | exact Nat.le_of_ble_eq_true rfl | decide | omega | (simp; done) | (simp; omega)) ?_) | (refine rec_t (by first | (simp; done) | (simp; omega) | omega) (fun _ => ?_)) | (refine rec_f (by first | (simp; done) | (simp; omega) | omega) (fun _ => ?_)) | (refine opt_i (gLen_str (by first | (simp; done) | (simp; omega) | omega)) ?_) | (refine opt_i (gDiv_pos (by first | (simp; done) | (simp; omega) | omega) (by first | (simp; done) | (simp; omega) | omega)) ?_) | (refine opt_i (gMd_pos (by first | (simp; done) | (simp; omega) | omega)) ?_)))); (conv => whnf)
    exact fin _ rfl
  | [a, b, c], _ =>
    (try simp only [slots0, wipeS, backS, List.map_cons, List.map_nil, List.replicate, List.set_cons_zero, List.set_cons_succ, List.getElem?_cons_zero, List.getElem?_cons_succ, List.cons_append, List.nil_append]); (repeat ((conv => whnf); (first | (refine And.intro (by first | rfl | exact Nat.le_of_ble_eq_true rfl | decide | omega | (simp; done) | (simp; omega)) ?_) | (refine rec_t (by first | (simp; done) | (simp; omega) | omega) (fun _ => ?_)) | (refine rec_f (by first | (simp; done) | (simp; omega) | omega) (fun _ => ?_)) | (refine opt_i (gLen_str (by first | (simp; done) | (simp; omega) | omega)) ?_) | (refine opt_i (gDiv_pos (by first | (simp; done) | (simp; omega) | omega) (by first | (simp; done) | (simp; omega) | omega)) ?_) | (refine opt_i (gMd_pos (by first | (simp; done) | (simp; omega) | omega)) ?_)))); (conv => whnf)
    exact fin _ rfl
  | [a, b, c, e], _ =>
    (try simp only [slots0, wipeS, backS, List.map_cons, List.map_nil, List.replicate, List.set_cons_zero, List.set_cons_succ, List.getElem?_cons_zero, List.getElem?_cons_succ, List.cons_append, List.nil_append]); (repeat ((conv => whnf); (first | (refine And.intro (by first | rfl | exact Nat.le_of_ble_eq_true rfl | decide | omega | (simp; done) | (simp; omega)) ?_) | (refine rec_t (by first | (simp; done) | (simp; omega) | omega) (fun _ => ?_)) | (refine rec_f (by first | (simp; done) | (simp; omega) | omega) (fun _ => ?_)) | (refine opt_i (gLen_str (by first | (simp; done) | (simp; omega) | omega)) ?_) | (refine opt_i (gDiv_pos (by first | (simp; done) | (simp; omega) | omega) (by first | (simp; done) | (simp; omega) | omega)) ?_) | (refine opt_i (gMd_pos (by first | (simp; done) | (simp; omega) | omega)) ?_)))); (conv => whnf)
    exact fin _ rfl
  | [a, b, c, e, f], _ =>
    (try simp only [slots0, wipeS, backS, List.map_cons, List.map_nil, List.replicate, List.set_cons_zero, List.set_cons_succ, List.getElem?_cons_zero, List.getElem?_cons_succ, List.cons_append, List.nil_append]); (repeat ((conv => whnf); (first | (refine And.intro (by first | rfl | exact Nat.le_of_ble_eq_true rfl | decide | omega | (simp; done) | (simp; omega)) ?_) | (refine rec_t (by first | (simp; done) | (simp; omega) | omega) (fun _ => ?_)) | (refine rec_f (by first | (simp; done) | (simp; omega) | omega) (fun _ => ?_)) | (refine opt_i (gLen_str (by first | (simp; done) | (simp; omega) | omega)) ?_) | (refine opt_i (gDiv_pos (by first | (simp; done) | (simp; omega) | omega) (by first | (simp; done) | (simp; omega) | omega)) ?_) | (refine opt_i (gMd_pos (by first | (simp; done) | (simp; omega) | omega)) ?_)))); (conv => whnf)
    exact fin _ rfl
  | [a, b, c, e, f, g], _ =>
    (try simp only [slots0, wipeS, backS, List.map_cons, List.map_nil, List.replicate, List.set_cons_zero, List.set_cons_succ, List.getElem?_cons_zero, List.getElem?_cons_succ, List.cons_append, List.nil_append]); (repeat ((conv => whnf); (first | (refine And.intro (by first | rfl | exact Nat.le_of_ble_eq_true rfl | decide | omega | (simp; done) | (simp; omega)) ?_) | (refine rec_t (by first | (simp; done) | (simp; omega) | omega) (fun _ => ?_)) | (refine rec_f (by first | (simp; done) | (simp; omega) | omega) (fun _ => ?_)) | (refine opt_i (gLen_str (by first | (simp; done) | (simp; omega) | omega)) ?_) | (refine opt_i (gDiv_pos (by first | (simp; done) | (simp; omega) | omega) (by first | (simp; done) | (simp; omega) | omega)) ?_) | (refine opt_i (gMd_pos (by first | (simp; done) | (simp; omega) | omega)) ?_)))); (conv => whnf)
    exact fin _ rfl
  | a :: b :: c :: e :: f :: g :: h :: l, hl => simp at hl
end
end K22
end
section
set_option maxHeartbeats 2000000
namespace K22
open PySem DL L2
theorem NameOk.short {s : Str} (h : NameOk s) : (s.cps.toList.all fun c => decide (c < 16 ^ 8)) = true := by
  have key : ∀ c ∈ letters.cps.toList, c < 16 ^ 8 := by decide +kernel
  rw [List.all_eq_true]
  intro c hc
  exact decide_eq_true (key c (h.all c hc))
theorem show_lay {l : Lay} (h : LayOk l) : (layP l).showable = true ∧ (layP l).hasDict = false ∧ (layP l).leavesShort 61 = true ∧ (layP l).bulk ≤ 6 := by
  cases l with
  | up => exact ⟨rfl, rfl, by decide, by decide⟩
  | down => exact ⟨rfl, rfl, by decide, by decide⟩
  | ring k =>
    have hk : k.natAbs < 10 ^ 60 := by
      obtain ⟨k1, k2⟩ := h
      omega
    refine ⟨?_, rfl, ?_, Nat.le_refl 6⟩
    · show (true && (decide (k.natAbs.log2 < 1920) && true)) = true
      rw [decide_eq_true (int_log hk)]
      rfl
    · show (PyData.leavesShort 61 (.str "ring") && (decide ((PyData.shown (.int k)).length ≤ 61) && true)) = true
      rw [decide_eq_true (int_short hk)]
      decide
structure RowSh (r : Row) : Prop where
  nm : NameOk r.1
  lay : LayOk r.2.2
  bnd : r.2.1.natAbs < 10 ^ 60
theorem show_row {r : Row} (h : RowSh r) : (rowP r).showable = true ∧ (rowP r).hasDict = false ∧ (rowP r).leavesShort 61 = true ∧ (rowP r).bulk ≤ 17 := by
  obtain ⟨a1, a2, a3, a4⟩ := show_lay h.lay
  refine ⟨?_, ?_, ?_, ?_⟩
  · show (true && (decide (r.2.1.natAbs.log2 < 1920) && ((layP r.2.2).showable && true))) = true
    rw [decide_eq_true (int_log h.bnd), a1]
    rfl
  · show (false || (false || ((layP r.2.2).hasDict || false))) = false
    rw [a2]
    rfl
  · show ((r.1.cps.toList.all fun c => decide (c < 16 ^ 8)) && (decide ((PyData.shown (.int r.2.1)).length ≤ 61) && ((layP r.2.2).leavesShort 61 && true))) = true
    rw [h.nm.short, decide_eq_true (int_short h.bnd), a3]
    rfl
  · show r.1.cps.size + 1 + (0 + 1 + ((layP r.2.2).bulk + 1 + 0)) ≤ 17
    have : r.1.cps.size ≤ 8 := h.nm.hi
    omega
theorem show_rowsL : ∀ {rs : List Row}, (∀ r ∈ rs, RowSh r) → PyData.showableAll (rs.map rowP) = true ∧ PyData.hasDictAll (rs.map rowP) = false ∧ PyData.leavesShortAll 61 (rs.map rowP) = true ∧ PyData.bulkAll (rs.map rowP) ≤ 18 * rs.length
  | [], _ => ⟨rfl, rfl, rfl, Nat.le_refl 0⟩
  | r :: rs, h => by
    obtain ⟨a1, a2, a3, a4⟩ := show_row (h r List.mem_cons_self)
    obtain ⟨b1, b2, b3, b4⟩ := show_rowsL (rs := rs) fun x hx => h x (List.mem_cons_of_mem _ hx)
    refine ⟨?_, ?_, ?_, ?_⟩
    · show ((rowP r).showable && PyData.showableAll (rs.map rowP)) = true
      rw [a1, b1]
      rfl
    · show ((rowP r).hasDict || PyData.hasDictAll (rs.map rowP)) = false
      rw [a2, b2]
      rfl
    · show ((rowP r).leavesShort 61 && PyData.leavesShortAll 61 (rs.map rowP)) = true
      rw [a3, b3]
      rfl
    · show (rowP r).bulk + 1 + PyData.bulkAll (rs.map rowP) ≤ 18 * (rs.length + 1)
      omega
theorem show_rows {rs : List Row} (h : ∀ r ∈ rs, RowSh r) (hl : rs.length ≤ 6) : ShowOk (.tuple (rs.map rowP)) := by
  obtain ⟨a1, a2, a3, a4⟩ := show_rowsL h
  have hd := (rows_can (rs := rs) fun r hr => (h r hr).nm.ok).2
  refine show_ok a1 a2 a3 ?_ ?_
  · show PyData.bulkAll (rs.map rowP) ≤ 1000
    omega
  · show PyData.depthAll (rs.map rowP) + 1 ≤ 30
    omega
theorem toP_rows (rs : List Row) : toP (.tup (rs.map rowD)) = some (.tuple (rs.map rowP)) := by
  show (toPL (rs.map rowD)).map PyData.tuple = _
  rw [toPL_rows]
  rfl
/-- the drawn pairs: names of the program, each once; a first cell that is good, or one too low -/
structure PairsOk (as : Arr) (ps : Arr) : Prop where
  nd : (ps.map (·.1)).Nodup
  mem : ∀ p ∈ ps, p.1 ∈ as.map (·.1)
  bnd : ∀ p ∈ ps, p.2.natAbs < 10 ^ 50
theorem ins_perm {α : Type} (l : List α) (j : Nat) (x : α) : (l.take j ++ [x] ++ l.drop j).Perm (x :: l) := by
  rw [List.append_assoc]
  refine (List.perm_middle (a := x) (l₁ := l.take j) (l₂ := l.drop j)).trans ?_
  rw [List.take_append_drop]
section
variable {n : Nat} {q : D → Nat → Prop} {as : Arr} {lo ou wr : D} {rs : List Row}
theorem s_pairs (ok : ArrOk as) (hr : RowsIn as rs) (hn : n < 800000) (k : ∀ ps, PairsOk as ps → ps.length ≤ 6 → ∀ n', n ≤ n' → n' ≤ n + 60 → q (.lst (ps.map elD)) n') : w__law_pairs [.ext 0, arrD as, .lst (rs.map rowD)] n q := by
  have h6 := ok.hi
  have hl := hr.s.len
  unfold w__law_pairs arrD
  (try simp only [slots0, wipeS, backS, List.map_cons, List.map_nil, List.replicate, List.set_cons_zero, List.set_cons_succ, List.getElem?_cons_zero, List.getElem?_cons_succ, List.cons_append, List.nil_append]); (repeat ((conv => whnf); (first | (refine And.intro (by first | rfl | exact Nat.le_of_ble_eq_true rfl | decide | omega | (simp; done) | (simp; omega)) ?_) | (refine rec_t (by first | (simp; done) | (simp; omega) | omega) (fun _ => ?_)) | (refine rec_f (by first | (simp; done) | (simp; omega) | omega) (fun _ => ?_)) | (refine opt_i (gLen_str (by first | (simp; done) | (simp; omega) | omega)) ?_) | (refine opt_i (gDiv_pos (by first | (simp; done) | (simp; omega) | omega) (by first | (simp; done) | (simp; omega) | omega)) ?_) | (refine opt_i (gMd_pos (by first | (simp; done) | (simp; omega) | omega)) ?_)))); (conv => whnf)
  rw [pairs_zip]
  refine loop_inv (fun i ρ z => ∃ (ps : Arr) (s4 s5 s6 s7 s8 : DL.Slot), ρ = [.val (.ext 0), .val (.tup (as.map elD)), .val (.lst (rs.map rowD)), .own (.lst (ps.map elD)), s4, s5, s6, s7, s8] ∧ (ps.map (·.1)).Nodup ∧ (∀ p ∈ ps, p.1 ∈ (as.take i).map (·.1)) ∧ ps.length ≤ i ∧ (∀ p ∈ ps, p.2.natAbs < 10 ^ 50) ∧ n ≤ z ∧ z ≤ n + 8 * i) _ (fun i e ρ z he hI Z hZ => ?_) (fun ρ z hI => ?_) _ _ ⟨[], .un, .un, .un, .un, .un, rfl, List.nodup_nil, by simp, by simp, by simp, by omega, by omega⟩
  · obtain ⟨ps, s4, s5, s6, s7, s8, rfl, nd, hsub, hlen, hb, z1, z2⟩ := hI
    rw [List.getElem?_map] at he
    obtain ⟨⟨a, r⟩, hz, rfl⟩ := Option.map_eq_some_iff.mp he
    obtain ⟨ha, hr'⟩ := List.getElem?_zip_eq_some.mp hz
    have hi : i < as.length := (List.getElem?_eq_some_iff.mp ha).1
    have hmem : a ∈ as := List.mem_of_getElem? ha
    obtain ⟨sz1, sz2⟩ := ok.sizes a hmem
    have hnew : a.1 ∉ ps.map (·.1) := fun h => by
      obtain ⟨p, hp, e⟩ := List.mem_map.mp h
      have h2 := hsub p hp
      rw [e] at h2
      obtain ⟨y, hy, e2⟩ := List.mem_map.mp h2
      obtain ⟨j, hj⟩ := List.mem_iff_getElem?.mp hy
      have hjl : j < i := by
        have := (List.getElem?_eq_some_iff.mp hj).1
        simp at this
        omega
      rw [List.getElem?_take_of_lt hjl] at hj
      have e3 : (as.map (·.1))[j]? = (as.map (·.1))[i]? := by
        rw [List.getElem?_map, List.getElem?_map, hj, ha]
        simp [e2]
      have := (List.getElem?_inj (by simpa using Nat.lt_trans hjl hi) ok.nodup).mp e3
      omega
    have grow : ∀ p ∈ ps, p.1 ∈ (as.take (i + 1)).map (·.1) := fun p hp => by
      rw [List.take_succ, List.map_append]
      exact List.mem_append_left _ (hsub p hp)
    (try simp only [slots0, wipeS, backS, List.map_cons, List.map_nil, List.replicate, List.set_cons_zero, List.set_cons_succ, List.getElem?_cons_zero, List.getElem?_cons_succ, List.cons_append, List.nil_append]); (repeat ((conv => whnf); (first | (refine And.intro (by first | rfl | exact Nat.le_of_ble_eq_true rfl | decide | omega | (simp; done) | (simp; omega)) ?_) | (refine rec_t (by first | (simp; done) | (simp; omega) | omega) (fun _ => ?_)) | (refine rec_f (by first | (simp; done) | (simp; omega) | omega) (fun _ => ?_)) | (refine opt_i (gLen_str (by first | (simp; done) | (simp; omega) | omega)) ?_) | (refine opt_i (gDiv_pos (by first | (simp; done) | (simp; omega) | omega) (by first | (simp; done) | (simp; omega) | omega)) ?_) | (refine opt_i (gMd_pos (by first | (simp; done) | (simp; omega) | omega)) ?_)))); (conv => whnf)
    refine s_draw (by decide) (by decide) (by omega) fun u u1 u2 => ?_
    by_cases cu : 0 < u
    · (try simp only [slots0, wipeS, backS, List.map_cons, List.map_nil, List.replicate, List.set_cons_zero, List.set_cons_succ, List.getElem?_cons_zero, List.getElem?_cons_succ, List.cons_append, List.nil_append]); (repeat ((conv => whnf); (first | (refine And.intro (by first | rfl | exact Nat.le_of_ble_eq_true rfl | decide | omega | (simp [cu]; done) | (simp [cu]; omega)) ?_) | (refine rec_t (by first | (simp [cu]; done) | (simp [cu]; omega) | omega) (fun _ => ?_)) | (refine rec_f (by first | (simp [cu]; done) | (simp [cu]; omega) | omega) (fun _ => ?_)) | (refine opt_i (gLen_str (by first | (simp [cu]; done) | (simp [cu]; omega) | omega)) ?_) | (refine opt_i (gDiv_pos (by first | (simp [cu]; done) | (simp [cu]; omega) | omega) (by first | (simp [cu]; done) | (simp [cu]; omega) | omega)) ?_) | (refine opt_i (gMd_pos (by first | (simp [cu]; done) | (simp [cu]; omega) | omega)) ?_)))); (conv => whnf)
      refine opt_i gEq_layD ?_
      have put : ∀ (g : Int) (j : Int), g.natAbs < 10 ^ 50 → 0 ≤ j → j < (ps.length : Int) + 1 → ∀ (l7 : Int) n', z ≤ n' → n' ≤ z + 8 → Z [.val (.ext 0), .val (.tup (as.map elD)), .val (.lst (rs.map rowD)), .own (.lst ((ps.map elD).take j.toNat ++ [D.tup [.str a.1, .int g]] ++ (ps.map elD).drop j.toNat)), .val (rowD r), .val (.str a.1), .val (.int a.2), .val (.int l7), .val (.int g)] n' := by
        intro g j hg j1 j2 l7 n' z3 z4
        have pp := ins_perm ps j.toNat (a.1, g)
        refine hZ _ _ ⟨ps.take j.toNat ++ [(a.1, g)] ++ ps.drop j.toNat, _, _, _, _, _, by rw [List.map_append, List.map_append, List.map_take, List.map_drop]; rfl, ?_, fun p hp => ?_, ?_, fun p hp => ?_, by omega, by omega⟩
        · refine (pp.map (·.1)).nodup_iff.mpr ?_
          rw [List.map_cons, List.nodup_cons]
          exact ⟨hnew, nd⟩
        · rcases List.mem_cons.mp (pp.mem_iff.mp hp) with e | hp
          · subst e
            rw [List.take_succ, List.map_append, ha]
            simp
          · exact grow p hp
        · have := pp.length_eq
          simp at this ⊢
          omega
        · rcases List.mem_cons.mp (pp.mem_iff.mp hp) with e | hp
          · subst e
            exact hg
          · exact hb p hp
      cases hlay : r.2.2 with
      | up =>
        (try simp only [slots0, wipeS, backS, List.map_cons, List.map_nil, List.replicate, List.set_cons_zero, List.set_cons_succ, List.getElem?_cons_zero, List.getElem?_cons_succ, List.cons_append, List.nil_append]); (repeat ((conv => whnf); (first | (refine And.intro (by first | rfl | exact Nat.le_of_ble_eq_true rfl | decide | omega | (simp; done) | (simp; omega)) ?_) | (refine rec_t (by first | (simp; done) | (simp; omega) | omega) (fun _ => ?_)) | (refine rec_f (by first | (simp; done) | (simp; omega) | omega) (fun _ => ?_)) | (refine opt_i (gLen_str (by first | (simp; done) | (simp; omega) | omega)) ?_) | (refine opt_i (gDiv_pos (by first | (simp; done) | (simp; omega) | omega) (by first | (simp; done) | (simp; omega) | omega)) ?_) | (refine opt_i (gMd_pos (by first | (simp; done) | (simp; omega) | omega)) ?_)))); (conv => whnf)
        refine s_great (by omega) fun g g1 g2 n3 z3 z4 => ?_
        (try simp only [slots0, wipeS, backS, List.map_cons, List.map_nil, List.replicate, List.set_cons_zero, List.set_cons_succ, List.getElem?_cons_zero, List.getElem?_cons_succ, List.cons_append, List.nil_append]); (repeat ((conv => whnf); (first | (refine And.intro (by first | rfl | exact Nat.le_of_ble_eq_true rfl | decide | omega | (simp; done) | (simp; omega)) ?_) | (refine rec_t (by first | (simp; done) | (simp; omega) | omega) (fun _ => ?_)) | (refine rec_f (by first | (simp; done) | (simp; omega) | omega) (fun _ => ?_)) | (refine opt_i (gLen_str (by first | (simp; done) | (simp; omega) | omega)) ?_) | (refine opt_i (gDiv_pos (by first | (simp; done) | (simp; omega) | omega) (by first | (simp; done) | (simp; omega) | omega)) ?_) | (refine opt_i (gMd_pos (by first | (simp; done) | (simp; omega) | omega)) ?_)))); (conv => whnf)
        refine s_draw (by decide) (by decide) (by omega) fun v v1 v2 => ?_
        by_cases cv : v = 0
        · (try simp only [slots0, wipeS, backS, List.map_cons, List.map_nil, List.replicate, List.set_cons_zero, List.set_cons_succ, List.getElem?_cons_zero, List.getElem?_cons_succ, List.cons_append, List.nil_append]); (repeat ((conv => whnf); (first | (refine And.intro (by first | rfl | exact Nat.le_of_ble_eq_true rfl | decide | omega | (simp [cv]; done) | (simp [cv]; omega)) ?_) | (refine rec_t (by first | (simp [cv]; done) | (simp [cv]; omega) | omega) (fun _ => ?_)) | (refine rec_f (by first | (simp [cv]; done) | (simp [cv]; omega) | omega) (fun _ => ?_)) | (refine opt_i (gLen_str (by first | (simp [cv]; done) | (simp [cv]; omega) | omega)) ?_) | (refine opt_i (gDiv_pos (by first | (simp [cv]; done) | (simp [cv]; omega) | omega) (by first | (simp [cv]; done) | (simp [cv]; omega) | omega)) ?_) | (refine opt_i (gMd_pos (by first | (simp [cv]; done) | (simp [cv]; omega) | omega)) ?_)))); (conv => whnf)
          refine s_draw (by first | (simp; done) | (simp; omega)) (by first | (simp; done) | (simp; omega)) (by omega) fun j j1 j2 => ?_
          (try simp only [slots0, wipeS, backS, List.map_cons, List.map_nil, List.replicate, List.set_cons_zero, List.set_cons_succ, List.getElem?_cons_zero, List.getElem?_cons_succ, List.cons_append, List.nil_append]); (repeat ((conv => whnf); (first | (refine And.intro (by first | rfl | exact Nat.le_of_ble_eq_true rfl | decide | omega | (simp; done) | (simp; omega)) ?_) | (refine rec_t (by first | (simp; done) | (simp; omega) | omega) (fun _ => ?_)) | (refine rec_f (by first | (simp; done) | (simp; omega) | omega) (fun _ => ?_)) | (refine opt_i (gLen_str (by first | (simp; done) | (simp; omega) | omega)) ?_) | (refine opt_i (gDiv_pos (by first | (simp; done) | (simp; omega) | omega) (by first | (simp; done) | (simp; omega) | omega)) ?_) | (refine opt_i (gMd_pos (by first | (simp; done) | (simp; omega) | omega)) ?_)))); (conv => whnf)
          simp at j2
          refine ⟨by omega, by simp; omega, ?_⟩
          exact put _ j (by omega) j1 (by omega) _ _ (by omega) (by omega)
        · (try simp only [slots0, wipeS, backS, List.map_cons, List.map_nil, List.replicate, List.set_cons_zero, List.set_cons_succ, List.getElem?_cons_zero, List.getElem?_cons_succ, List.cons_append, List.nil_append]); (repeat ((conv => whnf); (first | (refine And.intro (by first | rfl | exact Nat.le_of_ble_eq_true rfl | decide | omega | (simp [cv]; done) | (simp [cv]; omega)) ?_) | (refine rec_t (by first | (simp [cv]; done) | (simp [cv]; omega) | omega) (fun _ => ?_)) | (refine rec_f (by first | (simp [cv]; done) | (simp [cv]; omega) | omega) (fun _ => ?_)) | (refine opt_i (gLen_str (by first | (simp [cv]; done) | (simp [cv]; omega) | omega)) ?_) | (refine opt_i (gDiv_pos (by first | (simp [cv]; done) | (simp [cv]; omega) | omega) (by first | (simp [cv]; done) | (simp [cv]; omega) | omega)) ?_) | (refine opt_i (gMd_pos (by first | (simp [cv]; done) | (simp [cv]; omega) | omega)) ?_)))); (conv => whnf)
          refine s_draw (by first | (simp; done) | (simp; omega)) (by first | (simp; done) | (simp; omega)) (by omega) fun j j1 j2 => ?_
          (try simp only [slots0, wipeS, backS, List.map_cons, List.map_nil, List.replicate, List.set_cons_zero, List.set_cons_succ, List.getElem?_cons_zero, List.getElem?_cons_succ, List.cons_append, List.nil_append]); (repeat ((conv => whnf); (first | (refine And.intro (by first | rfl | exact Nat.le_of_ble_eq_true rfl | decide | omega | (simp; done) | (simp; omega)) ?_) | (refine rec_t (by first | (simp; done) | (simp; omega) | omega) (fun _ => ?_)) | (refine rec_f (by first | (simp; done) | (simp; omega) | omega) (fun _ => ?_)) | (refine opt_i (gLen_str (by first | (simp; done) | (simp; omega) | omega)) ?_) | (refine opt_i (gDiv_pos (by first | (simp; done) | (simp; omega) | omega) (by first | (simp; done) | (simp; omega) | omega)) ?_) | (refine opt_i (gMd_pos (by first | (simp; done) | (simp; omega) | omega)) ?_)))); (conv => whnf)
          simp at j2
          refine ⟨by omega, by simp; omega, ?_⟩
          exact put _ j (by omega) j1 (by omega) _ _ (by omega) (by omega)
      | down =>
        (try simp only [slots0, wipeS, backS, List.map_cons, List.map_nil, List.replicate, List.set_cons_zero, List.set_cons_succ, List.getElem?_cons_zero, List.getElem?_cons_succ, List.cons_append, List.nil_append]); (repeat ((conv => whnf); (first | (refine And.intro (by first | rfl | exact Nat.le_of_ble_eq_true rfl | decide | omega | (simp; done) | (simp; omega)) ?_) | (refine rec_t (by first | (simp; done) | (simp; omega) | omega) (fun _ => ?_)) | (refine rec_f (by first | (simp; done) | (simp; omega) | omega) (fun _ => ?_)) | (refine opt_i (gLen_str (by first | (simp; done) | (simp; omega) | omega)) ?_) | (refine opt_i (gDiv_pos (by first | (simp; done) | (simp; omega) | omega) (by first | (simp; done) | (simp; omega) | omega)) ?_) | (refine opt_i (gMd_pos (by first | (simp; done) | (simp; omega) | omega)) ?_)))); (conv => whnf)
        refine s_great (by omega) fun g g1 g2 n3 z3 z4 => ?_
        (try simp only [slots0, wipeS, backS, List.map_cons, List.map_nil, List.replicate, List.set_cons_zero, List.set_cons_succ, List.getElem?_cons_zero, List.getElem?_cons_succ, List.cons_append, List.nil_append]); (repeat ((conv => whnf); (first | (refine And.intro (by first | rfl | exact Nat.le_of_ble_eq_true rfl | decide | omega | (simp; done) | (simp; omega)) ?_) | (refine rec_t (by first | (simp; done) | (simp; omega) | omega) (fun _ => ?_)) | (refine rec_f (by first | (simp; done) | (simp; omega) | omega) (fun _ => ?_)) | (refine opt_i (gLen_str (by first | (simp; done) | (simp; omega) | omega)) ?_) | (refine opt_i (gDiv_pos (by first | (simp; done) | (simp; omega) | omega) (by first | (simp; done) | (simp; omega) | omega)) ?_) | (refine opt_i (gMd_pos (by first | (simp; done) | (simp; omega) | omega)) ?_)))); (conv => whnf)
        refine s_draw (by decide) (by decide) (by omega) fun v v1 v2 => ?_
        by_cases cv : v = 0
        · (try simp only [slots0, wipeS, backS, List.map_cons, List.map_nil, List.replicate, List.set_cons_zero, List.set_cons_succ, List.getElem?_cons_zero, List.getElem?_cons_succ, List.cons_append, List.nil_append]); (repeat ((conv => whnf); (first | (refine And.intro (by first | rfl | exact Nat.le_of_ble_eq_true rfl | decide | omega | (simp [cv]; done) | (simp [cv]; omega)) ?_) | (refine rec_t (by first | (simp [cv]; done) | (simp [cv]; omega) | omega) (fun _ => ?_)) | (refine rec_f (by first | (simp [cv]; done) | (simp [cv]; omega) | omega) (fun _ => ?_)) | (refine opt_i (gLen_str (by first | (simp [cv]; done) | (simp [cv]; omega) | omega)) ?_) | (refine opt_i (gDiv_pos (by first | (simp [cv]; done) | (simp [cv]; omega) | omega) (by first | (simp [cv]; done) | (simp [cv]; omega) | omega)) ?_) | (refine opt_i (gMd_pos (by first | (simp [cv]; done) | (simp [cv]; omega) | omega)) ?_)))); (conv => whnf)
          refine s_draw (by first | (simp; done) | (simp; omega)) (by first | (simp; done) | (simp; omega)) (by omega) fun j j1 j2 => ?_
          (try simp only [slots0, wipeS, backS, List.map_cons, List.map_nil, List.replicate, List.set_cons_zero, List.set_cons_succ, List.getElem?_cons_zero, List.getElem?_cons_succ, List.cons_append, List.nil_append]); (repeat ((conv => whnf); (first | (refine And.intro (by first | rfl | exact Nat.le_of_ble_eq_true rfl | decide | omega | (simp; done) | (simp; omega)) ?_) | (refine rec_t (by first | (simp; done) | (simp; omega) | omega) (fun _ => ?_)) | (refine rec_f (by first | (simp; done) | (simp; omega) | omega) (fun _ => ?_)) | (refine opt_i (gLen_str (by first | (simp; done) | (simp; omega) | omega)) ?_) | (refine opt_i (gDiv_pos (by first | (simp; done) | (simp; omega) | omega) (by first | (simp; done) | (simp; omega) | omega)) ?_) | (refine opt_i (gMd_pos (by first | (simp; done) | (simp; omega) | omega)) ?_)))); (conv => whnf)
          simp at j2
          refine ⟨by omega, by simp; omega, ?_⟩
          exact put _ j (by omega) j1 (by omega) _ _ (by omega) (by omega)
        · (try simp only [slots0, wipeS, backS, List.map_cons, List.map_nil, List.replicate, List.set_cons_zero, List.set_cons_succ, List.getElem?_cons_zero, List.getElem?_cons_succ, List.cons_append, List.nil_append]); (repeat ((conv => whnf); (first | (refine And.intro (by first | rfl | exact Nat.le_of_ble_eq_true rfl | decide | omega | (simp [cv]; done) | (simp [cv]; omega)) ?_) | (refine rec_t (by first | (simp [cv]; done) | (simp [cv]; omega) | omega) (fun _ => ?_)) | (refine rec_f (by first | (simp [cv]; done) | (simp [cv]; omega) | omega) (fun _ => ?_)) | (refine opt_i (gLen_str (by first | (simp [cv]; done) | (simp [cv]; omega) | omega)) ?_) | (refine opt_i (gDiv_pos (by first | (simp [cv]; done) | (simp [cv]; omega) | omega) (by first | (simp [cv]; done) | (simp [cv]; omega) | omega)) ?_) | (refine opt_i (gMd_pos (by first | (simp [cv]; done) | (simp [cv]; omega) | omega)) ?_)))); (conv => whnf)
          refine s_draw (by first | (simp; done) | (simp; omega)) (by first | (simp; done) | (simp; omega)) (by omega) fun j j1 j2 => ?_
          (try simp only [slots0, wipeS, backS, List.map_cons, List.map_nil, List.replicate, List.set_cons_zero, List.set_cons_succ, List.getElem?_cons_zero, List.getElem?_cons_succ, List.cons_append, List.nil_append]); (repeat ((conv => whnf); (first | (refine And.intro (by first | rfl | exact Nat.le_of_ble_eq_true rfl | decide | omega | (simp; done) | (simp; omega)) ?_) | (refine rec_t (by first | (simp; done) | (simp; omega) | omega) (fun _ => ?_)) | (refine rec_f (by first | (simp; done) | (simp; omega) | omega) (fun _ => ?_)) | (refine opt_i (gLen_str (by first | (simp; done) | (simp; omega) | omega)) ?_) | (refine opt_i (gDiv_pos (by first | (simp; done) | (simp; omega) | omega) (by first | (simp; done) | (simp; omega) | omega)) ?_) | (refine opt_i (gMd_pos (by first | (simp; done) | (simp; omega) | omega)) ?_)))); (conv => whnf)
          simp at j2
          refine ⟨by omega, by simp; omega, ?_⟩
          exact put _ j (by omega) j1 (by omega) _ _ (by omega) (by omega)
      | ring kk =>
        (try simp only [slots0, wipeS, backS, List.map_cons, List.map_nil, List.replicate, List.set_cons_zero, List.set_cons_succ, List.getElem?_cons_zero, List.getElem?_cons_succ, List.cons_append, List.nil_append]); (repeat ((conv => whnf); (first | (refine And.intro (by first | rfl | exact Nat.le_of_ble_eq_true rfl | decide | omega | (simp; done) | (simp; omega)) ?_) | (refine rec_t (by first | (simp; done) | (simp; omega) | omega) (fun _ => ?_)) | (refine rec_f (by first | (simp; done) | (simp; omega) | omega) (fun _ => ?_)) | (refine opt_i (gLen_str (by first | (simp; done) | (simp; omega) | omega)) ?_) | (refine opt_i (gDiv_pos (by first | (simp; done) | (simp; omega) | omega) (by first | (simp; done) | (simp; omega) | omega)) ?_) | (refine opt_i (gMd_pos (by first | (simp; done) | (simp; omega) | omega)) ?_)))); (conv => whnf)
        refine s_great (by omega) fun g g1 g2 n3 z3 z4 => ?_
        (try simp only [slots0, wipeS, backS, List.map_cons, List.map_nil, List.replicate, List.set_cons_zero, List.set_cons_succ, List.getElem?_cons_zero, List.getElem?_cons_succ, List.cons_append, List.nil_append]); (repeat ((conv => whnf); (first | (refine And.intro (by first | rfl | exact Nat.le_of_ble_eq_true rfl | decide | omega | (simp; done) | (simp; omega)) ?_) | (refine rec_t (by first | (simp; done) | (simp; omega) | omega) (fun _ => ?_)) | (refine rec_f (by first | (simp; done) | (simp; omega) | omega) (fun _ => ?_)) | (refine opt_i (gLen_str (by first | (simp; done) | (simp; omega) | omega)) ?_) | (refine opt_i (gDiv_pos (by first | (simp; done) | (simp; omega) | omega) (by first | (simp; done) | (simp; omega) | omega)) ?_) | (refine opt_i (gMd_pos (by first | (simp; done) | (simp; omega) | omega)) ?_)))); (conv => whnf)
        refine s_draw (by decide) (by decide) (by omega) fun v v1 v2 => ?_
        by_cases cv : v = 0
        · (try simp only [slots0, wipeS, backS, List.map_cons, List.map_nil, List.replicate, List.set_cons_zero, List.set_cons_succ, List.getElem?_cons_zero, List.getElem?_cons_succ, List.cons_append, List.nil_append]); (repeat ((conv => whnf); (first | (refine And.intro (by first | rfl | exact Nat.le_of_ble_eq_true rfl | decide | omega | (simp [cv]; done) | (simp [cv]; omega)) ?_) | (refine rec_t (by first | (simp [cv]; done) | (simp [cv]; omega) | omega) (fun _ => ?_)) | (refine rec_f (by first | (simp [cv]; done) | (simp [cv]; omega) | omega) (fun _ => ?_)) | (refine opt_i (gLen_str (by first | (simp [cv]; done) | (simp [cv]; omega) | omega)) ?_) | (refine opt_i (gDiv_pos (by first | (simp [cv]; done) | (simp [cv]; omega) | omega) (by first | (simp [cv]; done) | (simp [cv]; omega) | omega)) ?_) | (refine opt_i (gMd_pos (by first | (simp [cv]; done) | (simp [cv]; omega) | omega)) ?_)))); (conv => whnf)
          refine s_draw (by first | (simp; done) | (simp; omega)) (by first | (simp; done) | (simp; omega)) (by omega) fun j j1 j2 => ?_
          (try simp only [slots0, wipeS, backS, List.map_cons, List.map_nil, List.replicate, List.set_cons_zero, List.set_cons_succ, List.getElem?_cons_zero, List.getElem?_cons_succ, List.cons_append, List.nil_append]); (repeat ((conv => whnf); (first | (refine And.intro (by first | rfl | exact Nat.le_of_ble_eq_true rfl | decide | omega | (simp; done) | (simp; omega)) ?_) | (refine rec_t (by first | (simp; done) | (simp; omega) | omega) (fun _ => ?_)) | (refine rec_f (by first | (simp; done) | (simp; omega) | omega) (fun _ => ?_)) | (refine opt_i (gLen_str (by first | (simp; done) | (simp; omega) | omega)) ?_) | (refine opt_i (gDiv_pos (by first | (simp; done) | (simp; omega) | omega) (by first | (simp; done) | (simp; omega) | omega)) ?_) | (refine opt_i (gMd_pos (by first | (simp; done) | (simp; omega) | omega)) ?_)))); (conv => whnf)
          simp at j2
          refine ⟨by omega, by simp; omega, ?_⟩
          exact put _ j (by omega) j1 (by omega) _ _ (by omega) (by omega)
        · (try simp only [slots0, wipeS, backS, List.map_cons, List.map_nil, List.replicate, List.set_cons_zero, List.set_cons_succ, List.getElem?_cons_zero, List.getElem?_cons_succ, List.cons_append, List.nil_append]); (repeat ((conv => whnf); (first | (refine And.intro (by first | rfl | exact Nat.le_of_ble_eq_true rfl | decide | omega | (simp [cv]; done) | (simp [cv]; omega)) ?_) | (refine rec_t (by first | (simp [cv]; done) | (simp [cv]; omega) | omega) (fun _ => ?_)) | (refine rec_f (by first | (simp [cv]; done) | (simp [cv]; omega) | omega) (fun _ => ?_)) | (refine opt_i (gLen_str (by first | (simp [cv]; done) | (simp [cv]; omega) | omega)) ?_) | (refine opt_i (gDiv_pos (by first | (simp [cv]; done) | (simp [cv]; omega) | omega) (by first | (simp [cv]; done) | (simp [cv]; omega) | omega)) ?_) | (refine opt_i (gMd_pos (by first | (simp [cv]; done) | (simp [cv]; omega) | omega)) ?_)))); (conv => whnf)
          refine s_draw (by first | (simp; done) | (simp; omega)) (by first | (simp; done) | (simp; omega)) (by omega) fun j j1 j2 => ?_
          (try simp only [slots0, wipeS, backS, List.map_cons, List.map_nil, List.replicate, List.set_cons_zero, List.set_cons_succ, List.getElem?_cons_zero, List.getElem?_cons_succ, List.cons_append, List.nil_append]); (repeat ((conv => whnf); (first | (refine And.intro (by first | rfl | exact Nat.le_of_ble_eq_true rfl | decide | omega | (simp; done) | (simp; omega)) ?_) | (refine rec_t (by first | (simp; done) | (simp; omega) | omega) (fun _ => ?_)) | (refine rec_f (by first | (simp; done) | (simp; omega) | omega) (fun _ => ?_)) | (refine opt_i (gLen_str (by first | (simp; done) | (simp; omega) | omega)) ?_) | (refine opt_i (gDiv_pos (by first | (simp; done) | (simp; omega) | omega) (by first | (simp; done) | (simp; omega) | omega)) ?_) | (refine opt_i (gMd_pos (by first | (simp; done) | (simp; omega) | omega)) ?_)))); (conv => whnf)
          simp at j2
          refine ⟨by omega, by simp; omega, ?_⟩
          exact put _ j (by omega) j1 (by omega) _ _ (by omega) (by omega)
    · (try simp only [slots0, wipeS, backS, List.map_cons, List.map_nil, List.replicate, List.set_cons_zero, List.set_cons_succ, List.getElem?_cons_zero, List.getElem?_cons_succ, List.cons_append, List.nil_append]); (repeat ((conv => whnf); (first | (refine And.intro (by first | rfl | exact Nat.le_of_ble_eq_true rfl | decide | omega | (simp [cu]; done) | (simp [cu]; omega)) ?_) | (refine rec_t (by first | (simp [cu]; done) | (simp [cu]; omega) | omega) (fun _ => ?_)) | (refine rec_f (by first | (simp [cu]; done) | (simp [cu]; omega) | omega) (fun _ => ?_)) | (refine opt_i (gLen_str (by first | (simp [cu]; done) | (simp [cu]; omega) | omega)) ?_) | (refine opt_i (gDiv_pos (by first | (simp [cu]; done) | (simp [cu]; omega) | omega) (by first | (simp [cu]; done) | (simp [cu]; omega) | omega)) ?_) | (refine opt_i (gMd_pos (by first | (simp [cu]; done) | (simp [cu]; omega) | omega)) ?_)))); (conv => whnf)
      exact hZ _ _ ⟨ps, _, _, _, _, _, rfl, nd, grow, by omega, hb, by omega, by omega⟩
  · obtain ⟨ps, s4, s5, s6, s7, s8, rfl, nd, hsub, hlen, hb, z1, z2⟩ := hI
    rw [List.length_map, List.length_zip] at z2 hlen
    (try simp only [slots0, wipeS, backS, List.map_cons, List.map_nil, List.replicate, List.set_cons_zero, List.set_cons_succ, List.getElem?_cons_zero, List.getElem?_cons_succ, List.cons_append, List.nil_append]); (repeat ((conv => whnf); (first | (refine And.intro (by first | rfl | exact Nat.le_of_ble_eq_true rfl | decide | omega | (simp; done) | (simp; omega)) ?_) | (refine rec_t (by first | (simp; done) | (simp; omega) | omega) (fun _ => ?_)) | (refine rec_f (by first | (simp; done) | (simp; omega) | omega) (fun _ => ?_)) | (refine opt_i (gLen_str (by first | (simp; done) | (simp; omega) | omega)) ?_) | (refine opt_i (gDiv_pos (by first | (simp; done) | (simp; omega) | omega) (by first | (simp; done) | (simp; omega) | omega)) ?_) | (refine opt_i (gMd_pos (by first | (simp; done) | (simp; omega) | omega)) ?_)))); (conv => whnf)
    refine k ps ⟨nd, fun p hp => ?_, hb⟩ (by omega) _ z1 (by omega)
    obtain ⟨x, hx, e⟩ := List.mem_map.mp (hsub p hp)
    exact List.mem_map.mpr ⟨x, List.mem_of_mem_take hx, e⟩
end
end K22
end
section
set_option maxHeartbeats 4000000
namespace K22
open PySem DL L2
theorem gIx_at {xs : List D} {j : Int} {x : D} (h1 : 0 ≤ j) (h2 : j < xs.length) (e : xs[j.toNat]? = some x) : gIx (.lst xs) (.int j) = some x := by
  show atI xs j = some x
  unfold atI
  have e2 : ixN xs.length j = some j.toNat := by
    unfold ixN
    rw [if_pos h1, if_pos (by omega)]
  rw [e2]
  exact e
theorem gAdd_lst {xs ys : List D} (h : xs.length + ys.length ≤ 100000) : gAdd (.lst xs) (.lst ys) = some (.lst (xs ++ ys)) := if_pos h
theorem gEq_rowsL {rs ms : List Row} (h1 : ∀ r ∈ rs, PyData.strOk r.1 = true) (h2 : ∀ r ∈ ms, PyData.strOk r.1 = true) : ∃ b, gEq (.lst (rs.map rowD)) (.lst (ms.map rowD)) = some (.bl b) ∧ (b = true ↔ rs = ms) := by
  obtain ⟨a1, a2⟩ := rows_can h1
  obtain ⟨b1, b2⟩ := rows_can h2
  have e1 : toP (.lst (rs.map rowD)) = some (.list (rs.map rowP)) := by
    show (toPL (rs.map rowD)).map PyData.list = _
    rw [toPL_rows]
    rfl
  have e2 : toP (.lst (ms.map rowD)) = some (.list (ms.map rowP)) := by
    show (toPL (ms.map rowD)).map PyData.list = _
    rw [toPL_rows]
    rfl
  have s1 : SeqAt.shaped (.list (rs.map rowP)) = true := by
    show (PyData.canLayAll0 (rs.map rowP) && decide (PyData.depthAll (rs.map rowP) + 1 ≤ 64)) = true
    rw [a1, decide_eq_true (by omega)]
    rfl
  have s2 : SeqAt.shaped (.list (ms.map rowP)) = true := by
    show (PyData.canLayAll0 (ms.map rowP) && decide (PyData.depthAll (ms.map rowP) + 1 ≤ 64)) = true
    rw [b1, decide_eq_true (by omega)]
    rfl
  exact ⟨_, gEq_of e1 e2 s1 s2, eqv_rows rs ms⟩
theorem fst_el (nm : Str) (f : Int) : ∀ ps : Arr, ((ps.filter fun p => p.1 == nm).map (fun p => D.int p.2) ++ [D.int f])[0]? = some (.int (((ps.find? fun p => p.1 == nm).map (·.2)).getD f))
  | [] => rfl
  | p :: ps => by
    by_cases c : p.1 = nm
    · rw [List.filter_cons_of_pos (by simpa using c), List.find?_cons_of_pos (by simpa using c)]
      rfl
    · rw [List.filter_cons_of_neg (by simpa using c), List.find?_cons_of_neg (by simpa using c)]
      exact fst_el nm f ps
theorem names_ok {as : Arr} {rs : List Row} (ok : ArrOk as) (h : rs.map (·.1) = as.map (·.1)) : ∀ r ∈ rs, NameOk r.1 := fun r hr => by
  have : r.1 ∈ as.map (·.1) := by
    rw [← h]
    exact List.mem_map.mpr ⟨r, hr, rfl⟩
  obtain ⟨a, ha, e⟩ := List.mem_map.mp this
  rw [← e]
  exact ok.names a ha
/-- moved back -/
def backP (rs : List Row) : Arr := rs.map fun r => (r.1, r.2.1)
theorem find_back : ∀ {rs : List Row} {r : Row}, (rs.map (·.1)).Nodup → r ∈ rs → ((backP rs).find? fun p => p.1 == r.1) = some (r.1, r.2.1)
  | [], _, _, h => absurd h (by simp)
  | x :: rs, r, nd, h => by
    rw [List.map_cons, List.nodup_cons] at nd
    show ((x.1, x.2.1) :: backP rs).find? _ = _
    rcases List.mem_cons.mp h with e | h
    · subst e
      rw [List.find?_cons_of_pos (by simp)]
    · have ne : ¬ x.1 = r.1 := fun z => nd.1 (by rw [z]; exact List.mem_map.mpr ⟨_, h, rfl⟩)
      rw [List.find?_cons_of_neg (by simpa using ne)]
      exact find_back nd.2 h
theorem back_rows {rs : List Row} (ps : Arr) (nd : (rs.map (·.1)).Nodup) : (rs.map (mvP ps)).map (mvP (backP rs)) = rs := by
  rw [List.map_map]
  refine (List.map_congr_left fun r hr => ?_).trans (List.map_id rs)
  show ((r.1, (((backP rs).find? fun p => p.1 == r.1).map (·.2)).getD (newFirst ps r), r.2.2) : Row) = r
  rw [find_back nd hr]
  rfl
theorem back_names (rs : List Row) : (backP rs).map (·.1) = rs.map (·.1) := by
  unfold backP
  rw [List.map_map]
  rfl
theorem good_append {as : Arr} {l m : List Row} : Good as (l ++ m) ↔ Good as l ∧ Good as m :=
  ⟨fun h => ⟨fun r hr => h r (List.mem_append_left _ hr), fun r hr => h r (List.mem_append_right _ hr)⟩, fun h r hr => by
    rcases List.mem_append.mp hr with hr | hr
    · exact h.1 r hr
    · exact h.2 r hr⟩
theorem good_one {as : Arr} {r : Row} : Good as [r] ↔ 0 ≤ lowOf as r := ⟨fun h => h r List.mem_cons_self, fun h x hx => by
  simp at hx
  subst hx
  exact h⟩
theorem gEq_bl {b c : Bool} : gEq (.bl b) (.bl c) = some (.bl (b == c)) := by
  cases b <;> cases c <;> rfl
theorem mv_sh {as : Arr} {rs : List Row} {ps : Arr} (ok : ArrOk as) (hr : RowsIn as rs) (hp : PairsOk as ps) : ∀ r ∈ rs.map (mvP ps), RowSh r := fun r h => by
  obtain ⟨x, hx, rfl⟩ := List.mem_map.mp h
  have h1 := (hr.each x hx).lo
  have h2 := (hr.each x hx).hi
  refine ⟨names_ok ok hr.names x hx, (hr.each x hx).lay, ?_⟩
  show (newFirst ps x).natAbs < 10 ^ 60
  unfold newFirst
  cases e : ps.find? fun p => p.1 == x.1 with
  | none =>
    show x.2.1.natAbs < 10 ^ 60
    omega
  | some p =>
    have := hp.bnd p (List.mem_of_find?_eq_some e)
    show p.2.natAbs < 10 ^ 60
    omega
theorem in_sh {as : Arr} {rs : List Row} (ok : ArrOk as) (hr : RowsIn as rs) : ∀ r ∈ rs, RowSh r := fun x hx => by
  have h1 := (hr.each x hx).lo
  have h2 := (hr.each x hx).hi
  exact ⟨names_ok ok hr.names x hx, (hr.each x hx).lay, by omega⟩
theorem RowsIn.good {as : Arr} {rs : List Row} (ok : ArrOk as) (h : RowsIn as rs) : Good as rs := fun r hr => by
  obtain ⟨sz, h1, h2⟩ := (h.each r hr).ex
  unfold lowOf
  rw [szOf_eq ok.nodup h1]
  exact h2
section
variable {n : Nat} {q : D → Nat → Prop} {as : Arr} {lo ou wr : D} {rs : List Row} {ps : Arr}
theorem s_right {x : D} (ok : ArrOk as) (h : PlG as lo ou wr rs x) (hr : RowsIn as rs) (hp : PairsOk as ps) (hpl : ps.length ≤ 6) (same : EqP lo ou lo ou true) (k : q (.bl true) n) :
    w__law_right [x, arrD as, .lst (rs.map rowD), .lst (ps.map elD)] n q := by
  have h6 := ok.hi
  have hl := hr.s.len
  have nms := names_ok ok hr.names
  have ndr : (rs.map (·.1)).Nodup := by
    rw [hr.names]
    exact ok.nodup
  have hx := h.ex
  unfold w__law_right arrD
  (try simp only [slots0, wipeS, backS, List.map_cons, List.map_nil, List.replicate, List.set_cons_zero, List.set_cons_succ, List.getElem?_cons_zero, List.getElem?_cons_succ, List.cons_append, List.nil_append]); (repeat ((conv => whnf); (first | (refine And.intro (by first | rfl | exact Nat.le_of_ble_eq_true rfl | decide | omega | (simp; done) | (simp; omega)) ?_) | (refine rec_t (by first | (simp; done) | (simp; omega) | omega) (fun _ => ?_)) | (refine rec_f (by first | (simp; done) | (simp; omega) | omega) (fun _ => ?_)) | (refine opt_i (gLen_str (by first | (simp; done) | (simp; omega) | omega)) ?_) | (refine opt_i (gDiv_pos (by first | (simp; done) | (simp; omega) | omega) (by first | (simp; done) | (simp; omega) | omega)) ?_) | (refine opt_i (gMd_pos (by first | (simp; done) | (simp; omega) | omega)) ?_)))); (conv => whnf)
  rw [pairs_zip]
  refine loop_inv (fun i ρ z => z = n ∧ ∃ (b : Bool) (s8 s9 s10 s11 s12 s13 : DL.Slot), ρ = [.val x, .val (.tup (as.map elD)), .val (.lst (rs.map rowD)), .val (.lst (ps.map elD)), .un, .un, .own (.lst (((rs.take i).map (mvP ps)).map rowD)), .val (.bl b), s8, s9, s10, s11, s12, s13, .un, .un] ∧ (b = true ↔ ¬ Good as ((rs.take i).map (mvP ps))) ∧ (∀ o, o = s8 ∨ o = s9 ∨ o = s10 ∨ o = s11 ∨ o = s12 ∨ o = s13 → UV o)) _ (fun i e ρ z he hI Z hZ => ?_) (fun ρ z hI => ?_) _ _ ⟨rfl, false, .un, .un, .un, .un, .un, .un, rfl, by simp [Good], by intro o ho; rcases ho with rfl | rfl | rfl | rfl | rfl | rfl <;> exact .inl rfl⟩
  · obtain ⟨rfl, b, s8, s9, s10, s11, s12, s13, rfl, hb, huv⟩ := hI
    rw [List.getElem?_map] at he
    obtain ⟨⟨⟨an, az⟩, rn, rf, rl⟩, hz, rfl⟩ := Option.map_eq_some_iff.mp he
    have hzn := zip_names hr.names _ (List.mem_of_getElem? hz)
    obtain rfl : rn = an := hzn.symm
    obtain ⟨ha, hr'⟩ := List.getElem?_zip_eq_some.mp hz
    have hi : i < as.length := (List.getElem?_eq_some_iff.mp ha).1
    have hmem : (rn, az) ∈ as := List.mem_of_getElem? ha
    have hrm : (rn, rf, rl) ∈ rs := List.mem_of_getElem? hr'
    have hzs : szOf as rn = az := szOf_eq ok.nodup hmem
    have hnm := nms _ hrm
    have etake : (rs.take (i + 1)).map (mvP ps) = (rs.take i).map (mvP ps) ++ [mvP ps (rn, rf, rl)] := by
      rw [List.take_succ, hr', List.map_append]
      rfl
    have fin : ∀ (b' : Bool) (fs : D), (b' = true ↔ ¬ Good as ((rs.take (i + 1)).map (mvP ps))) → Z [.val x, .val (.tup (as.map elD)), .val (.lst (rs.map rowD)), .val (.lst (ps.map elD)), .un, .un, .own (.lst (((rs.take i).map (mvP ps)).map rowD ++ [rowD (mvP ps (rn, rf, rl))])), .val (.bl b'), .val fs, .val (.str rn), .val (.int az), .val (.str rn), .val (.int rf), .val (layD rl), .un, .un] z := by
      intro b' fs hb'
      refine hZ _ _ ⟨rfl, b', _, _, _, _, _, _, by rw [etake, List.map_append]; rfl, hb', ?_⟩
      intro o ho
      rcases ho with rfl | rfl | rfl | rfl | rfl | rfl <;> exact .inr ⟨_, rfl⟩
    have hlow : lowOf as (mvP ps (rn, rf, rl)) = newFirst ps (rn, rf, rl) + low rl az := by
      show newFirst ps (rn, rf, rl) + low rl (szOf as rn) = _
      rw [hzs]
    (try simp only [slots0, wipeS, backS, List.map_cons, List.map_nil, List.replicate, List.set_cons_zero, List.set_cons_succ, List.getElem?_cons_zero, List.getElem?_cons_succ, List.cons_append, List.nil_append]); (repeat ((conv => whnf); (first | (refine And.intro (by first | rfl | exact Nat.le_of_ble_eq_true rfl | decide | omega | (simp; done) | (simp; omega)) ?_) | (refine rec_t (by first | (simp; done) | (simp; omega) | omega) (fun _ => ?_)) | (refine rec_f (by first | (simp; done) | (simp; omega) | omega) (fun _ => ?_)) | (refine opt_i (gLen_str (by first | (simp; done) | (simp; omega) | omega)) ?_) | (refine opt_i (gDiv_pos (by first | (simp; done) | (simp; omega) | omega) (by first | (simp; done) | (simp; omega) | omega)) ?_) | (refine opt_i (gMd_pos (by first | (simp; done) | (simp; omega) | omega)) ?_)))); (conv => whnf)
    refine comp_filterA elD (fun p => p.1 == rn) (fun p => .int p.2) _ _ (fun p hpp R Z' hR hZ' => ?_) (by simp; omega) ?_
    · obtain ⟨y, hy, ey⟩ := List.mem_map.mp (hp.mem p hpp)
      have hpn : NameOk p.1 := ey ▸ ok.names y hy
      (try simp only [slots0, wipeS, backS, List.map_cons, List.map_nil, List.replicate, List.set_cons_zero, List.set_cons_succ, List.getElem?_cons_zero, List.getElem?_cons_succ, List.cons_append, List.nil_append]); (repeat ((conv => whnf); (first | (refine And.intro (by first | rfl | exact Nat.le_of_ble_eq_true rfl | decide | omega | (simp; done) | (simp; omega)) ?_) | (refine rec_t (by first | (simp; done) | (simp; omega) | omega) (fun _ => ?_)) | (refine rec_f (by first | (simp; done) | (simp; omega) | omega) (fun _ => ?_)) | (refine opt_i (gLen_str (by first | (simp; done) | (simp; omega) | omega)) ?_) | (refine opt_i (gDiv_pos (by first | (simp; done) | (simp; omega) | omega) (by first | (simp; done) | (simp; omega) | omega)) ?_) | (refine opt_i (gMd_pos (by first | (simp; done) | (simp; omega) | omega)) ?_)))); (conv => whnf)
      refine opt_i (gEq_str hpn.ok hnm.ok) ?_
      (try simp only [slots0, wipeS, backS, List.map_cons, List.map_nil, List.replicate, List.set_cons_zero, List.set_cons_succ, List.getElem?_cons_zero, List.getElem?_cons_succ, List.cons_append, List.nil_append]); (repeat ((conv => whnf); (first | (refine And.intro (by first | rfl | exact Nat.le_of_ble_eq_true rfl | decide | omega | (simp; done) | (simp; omega)) ?_) | (refine rec_t (by first | (simp; done) | (simp; omega) | omega) (fun _ => ?_)) | (refine rec_f (by first | (simp; done) | (simp; omega) | omega) (fun _ => ?_)) | (refine opt_i (gLen_str (by first | (simp; done) | (simp; omega) | omega)) ?_) | (refine opt_i (gDiv_pos (by first | (simp; done) | (simp; omega) | omega) (by first | (simp; done) | (simp; omega) | omega)) ?_) | (refine opt_i (gMd_pos (by first | (simp; done) | (simp; omega) | omega)) ?_)))); (conv => whnf)
      by_cases c : p.1 = rn
      · refine rec_t (by simpa using c) fun _ => ?_
        (try simp only [slots0, wipeS, backS, List.map_cons, List.map_nil, List.replicate, List.set_cons_zero, List.set_cons_succ, List.getElem?_cons_zero, List.getElem?_cons_succ, List.cons_append, List.nil_append]); (repeat ((conv => whnf); (first | (refine And.intro (by first | rfl | exact Nat.le_of_ble_eq_true rfl | decide | omega | (simp; done) | (simp; omega)) ?_) | (refine rec_t (by first | (simp; done) | (simp; omega) | omega) (fun _ => ?_)) | (refine rec_f (by first | (simp; done) | (simp; omega) | omega) (fun _ => ?_)) | (refine opt_i (gLen_str (by first | (simp; done) | (simp; omega) | omega)) ?_) | (refine opt_i (gDiv_pos (by first | (simp; done) | (simp; omega) | omega) (by first | (simp; done) | (simp; omega) | omega)) ?_) | (refine opt_i (gMd_pos (by first | (simp; done) | (simp; omega) | omega)) ?_)))); (conv => whnf)
        exact hR (by simpa using c) _ (by rfl) (by rfl)
      · refine rec_f (by simpa using c) fun _ => ?_
        (try simp only [slots0, wipeS, backS, List.map_cons, List.map_nil, List.replicate, List.set_cons_zero, List.set_cons_succ, List.getElem?_cons_zero, List.getElem?_cons_succ, List.cons_append, List.nil_append]); (repeat ((conv => whnf); (first | (refine And.intro (by first | rfl | exact Nat.le_of_ble_eq_true rfl | decide | omega | (simp; done) | (simp; omega)) ?_) | (refine rec_t (by first | (simp; done) | (simp; omega) | omega) (fun _ => ?_)) | (refine rec_f (by first | (simp; done) | (simp; omega) | omega) (fun _ => ?_)) | (refine opt_i (gLen_str (by first | (simp; done) | (simp; omega) | omega)) ?_) | (refine opt_i (gDiv_pos (by first | (simp; done) | (simp; omega) | omega) (by first | (simp; done) | (simp; omega) | omega)) ?_) | (refine opt_i (gMd_pos (by first | (simp; done) | (simp; omega) | omega)) ?_)))); (conv => whnf)
        exact hZ' (by simpa using c) _ (by rfl) (by rfl)
    · rw [List.nil_append]
      have efst := fst_el rn rf ps
      have hfl : (ps.filter fun p => p.1 == rn).length ≤ 6 := Nat.le_trans (List.length_filter_le _ _) hpl
      obtain ⟨L, hL⟩ : ∃ L : List D, (ps.filter fun p => p.1 == rn).map (fun p => D.int p.2) = L := ⟨_, rfl⟩
      have hLl : L.length ≤ 6 := by
        rw [← hL, List.length_map]
        exact hfl
      rw [hL] at efst ⊢
      have gix : gIx (.lst (L ++ [D.int rf])) (.int 0) = some (.int (newFirst ps (rn, rf, rl))) := gIx_at (by decide) (by simp <;> omega) efst
      (try simp only [slots0, wipeS, backS, List.map_cons, List.map_nil, List.replicate, List.set_cons_zero, List.set_cons_succ, List.getElem?_cons_zero, List.getElem?_cons_succ, List.cons_append, List.nil_append]); (repeat ((conv => whnf); (first | (refine And.intro (by first | rfl | exact Nat.le_of_ble_eq_true rfl | decide | omega | (simp; done) | (simp; omega)) ?_) | (refine rec_t (by first | (simp; done) | (simp; omega) | omega) (fun _ => ?_)) | (refine rec_f (by first | (simp; done) | (simp; omega) | omega) (fun _ => ?_)) | (refine opt_i (gLen_str (by first | (simp; done) | (simp; omega) | omega)) ?_) | (refine opt_i (gDiv_pos (by first | (simp; done) | (simp; omega) | omega) (by first | (simp; done) | (simp; omega) | omega)) ?_) | (refine opt_i (gMd_pos (by first | (simp; done) | (simp; omega) | omega)) ?_)))); (conv => whnf)
      refine opt_i (gAdd_lst (by simp; omega)) ?_
      (try simp only [slots0, wipeS, backS, List.map_cons, List.map_nil, List.replicate, List.set_cons_zero, List.set_cons_succ, List.getElem?_cons_zero, List.getElem?_cons_succ, List.cons_append, List.nil_append]); (repeat ((conv => whnf); (first | (refine And.intro (by first | rfl | exact Nat.le_of_ble_eq_true rfl | decide | omega | (simp; done) | (simp; omega)) ?_) | (refine rec_t (by first | (simp; done) | (simp; omega) | omega) (fun _ => ?_)) | (refine rec_f (by first | (simp; done) | (simp; omega) | omega) (fun _ => ?_)) | (refine opt_i (gLen_str (by first | (simp; done) | (simp; omega) | omega)) ?_) | (refine opt_i (gDiv_pos (by first | (simp; done) | (simp; omega) | omega) (by first | (simp; done) | (simp; omega) | omega)) ?_) | (refine opt_i (gMd_pos (by first | (simp; done) | (simp; omega) | omega)) ?_)))); (conv => whnf)
      refine opt_i gix ?_
      have hlt : (((rs.take i).map (mvP ps)).map rowD).length < 100000 := by simp; omega
      (try simp only [slots0, wipeS, backS, List.map_cons, List.map_nil, List.replicate, List.set_cons_zero, List.set_cons_succ, List.getElem?_cons_zero, List.getElem?_cons_succ, List.cons_append, List.nil_append]); (repeat ((conv => whnf); (first | (refine And.intro (by first | rfl | exact Nat.le_of_ble_eq_true rfl | decide | omega | (simp [hlt]; done) | (simp [hlt]; omega)) ?_) | (refine rec_t (by first | (simp [hlt]; done) | (simp [hlt]; omega) | omega) (fun _ => ?_)) | (refine rec_f (by first | (simp [hlt]; done) | (simp [hlt]; omega) | omega) (fun _ => ?_)) | (refine opt_i (gLen_str (by first | (simp [hlt]; done) | (simp [hlt]; omega) | omega)) ?_) | (refine opt_i (gDiv_pos (by first | (simp [hlt]; done) | (simp [hlt]; omega) | omega) (by first | (simp [hlt]; done) | (simp [hlt]; omega) | omega)) ?_) | (refine opt_i (gMd_pos (by first | (simp [hlt]; done) | (simp [hlt]; omega) | omega)) ?_)))); (conv => whnf)
      cases b with
      | true =>
        (try simp only [slots0, wipeS, backS, List.map_cons, List.map_nil, List.replicate, List.set_cons_zero, List.set_cons_succ, List.getElem?_cons_zero, List.getElem?_cons_succ, List.cons_append, List.nil_append]); (repeat ((conv => whnf); (first | (refine And.intro (by first | rfl | exact Nat.le_of_ble_eq_true rfl | decide | omega | (simp; done) | (simp; omega)) ?_) | (refine rec_t (by first | (simp; done) | (simp; omega) | omega) (fun _ => ?_)) | (refine rec_f (by first | (simp; done) | (simp; omega) | omega) (fun _ => ?_)) | (refine opt_i (gLen_str (by first | (simp; done) | (simp; omega) | omega)) ?_) | (refine opt_i (gDiv_pos (by first | (simp; done) | (simp; omega) | omega) (by first | (simp; done) | (simp; omega) | omega)) ?_) | (refine opt_i (gMd_pos (by first | (simp; done) | (simp; omega) | omega)) ?_)))); (conv => whnf)
        refine fin true _ ⟨fun _ => ?_, fun _ => rfl⟩
        rw [etake, good_append]
        exact fun g => (hb.mp rfl) g.1
      | false =>
        have hg : Good as ((rs.take i).map (mvP ps)) := Classical.byContradiction fun z => Bool.noConfusion (hb.mpr z)
        (try simp only [slots0, wipeS, backS, List.map_cons, List.map_nil, List.replicate, List.set_cons_zero, List.set_cons_succ, List.getElem?_cons_zero, List.getElem?_cons_succ, List.cons_append, List.nil_append]); (repeat ((conv => whnf); (first | (refine And.intro (by first | rfl | exact Nat.le_of_ble_eq_true rfl | decide | omega | (simp; done) | (simp; omega)) ?_) | (refine rec_t (by first | (simp; done) | (simp; omega) | omega) (fun _ => ?_)) | (refine rec_f (by first | (simp; done) | (simp; omega) | omega) (fun _ => ?_)) | (refine opt_i (gLen_str (by first | (simp; done) | (simp; omega) | omega)) ?_) | (refine opt_i (gDiv_pos (by first | (simp; done) | (simp; omega) | omega) (by first | (simp; done) | (simp; omega) | omega)) ?_) | (refine opt_i (gMd_pos (by first | (simp; done) | (simp; omega) | omega)) ?_)))); (conv => whnf)
        refine opt_i gix ?_
        (try simp only [slots0, wipeS, backS, List.map_cons, List.map_nil, List.replicate, List.set_cons_zero, List.set_cons_succ, List.getElem?_cons_zero, List.getElem?_cons_succ, List.cons_append, List.nil_append]); (repeat ((conv => whnf); (first | (refine And.intro (by first | rfl | exact Nat.le_of_ble_eq_true rfl | decide | omega | (simp; done) | (simp; omega)) ?_) | (refine rec_t (by first | (simp; done) | (simp; omega) | omega) (fun _ => ?_)) | (refine rec_f (by first | (simp; done) | (simp; omega) | omega) (fun _ => ?_)) | (refine opt_i (gLen_str (by first | (simp; done) | (simp; omega) | omega)) ?_) | (refine opt_i (gDiv_pos (by first | (simp; done) | (simp; omega) | omega) (by first | (simp; done) | (simp; omega) | omega)) ?_) | (refine opt_i (gMd_pos (by first | (simp; done) | (simp; omega) | omega)) ?_)))); (conv => whnf)
        refine opt_i gEq_layD ?_
        have fin2 : ∀ lim : Int, (newFirst ps (rn, rf, rl) < lim ↔ newFirst ps (rn, rf, rl) + low rl az < 0) → (decide (newFirst ps (rn, rf, rl) < lim) = true ↔ ¬ Good as ((rs.take (i + 1)).map (mvP ps))) := by
          intro lim hlim
          rw [decide_eq_true_iff, hlim, etake, good_append, good_one, hlow]
          exact ⟨fun z g => by have := g.2; omega, fun z => by
            refine Classical.byContradiction fun zz => z ⟨hg, by omega⟩⟩
        cases rl with
        | up =>
          (try simp only [slots0, wipeS, backS, List.map_cons, List.map_nil, List.replicate, List.set_cons_zero, List.set_cons_succ, List.getElem?_cons_zero, List.getElem?_cons_succ, List.cons_append, List.nil_append]); (repeat ((conv => whnf); (first | (refine And.intro (by first | rfl | exact Nat.le_of_ble_eq_true rfl | decide | omega | (simp; done) | (simp; omega)) ?_) | (refine rec_t (by first | (simp; done) | (simp; omega) | omega) (fun _ => ?_)) | (refine rec_f (by first | (simp; done) | (simp; omega) | omega) (fun _ => ?_)) | (refine opt_i (gLen_str (by first | (simp; done) | (simp; omega) | omega)) ?_) | (refine opt_i (gDiv_pos (by first | (simp; done) | (simp; omega) | omega) (by first | (simp; done) | (simp; omega) | omega)) ?_) | (refine opt_i (gMd_pos (by first | (simp; done) | (simp; omega) | omega)) ?_)))); (conv => whnf)
          exact fin _ _ (fin2 0 (by simp [low]))
        | down =>
          (try simp only [slots0, wipeS, backS, List.map_cons, List.map_nil, List.replicate, List.set_cons_zero, List.set_cons_succ, List.getElem?_cons_zero, List.getElem?_cons_succ, List.cons_append, List.nil_append]); (repeat ((conv => whnf); (first | (refine And.intro (by first | rfl | exact Nat.le_of_ble_eq_true rfl | decide | omega | (simp; done) | (simp; omega)) ?_) | (refine rec_t (by first | (simp; done) | (simp; omega) | omega) (fun _ => ?_)) | (refine rec_f (by first | (simp; done) | (simp; omega) | omega) (fun _ => ?_)) | (refine opt_i (gLen_str (by first | (simp; done) | (simp; omega) | omega)) ?_) | (refine opt_i (gDiv_pos (by first | (simp; done) | (simp; omega) | omega) (by first | (simp; done) | (simp; omega) | omega)) ?_) | (refine opt_i (gMd_pos (by first | (simp; done) | (simp; omega) | omega)) ?_)))); (conv => whnf)
          exact fin _ _ (fin2 (az - 1) (by simp [low]; omega))
        | ring kk =>
          (try simp only [slots0, wipeS, backS, List.map_cons, List.map_nil, List.replicate, List.set_cons_zero, List.set_cons_succ, List.getElem?_cons_zero, List.getElem?_cons_succ, List.cons_append, List.nil_append]); (repeat ((conv => whnf); (first | (refine And.intro (by first | rfl | exact Nat.le_of_ble_eq_true rfl | decide | omega | (simp; done) | (simp; omega)) ?_) | (refine rec_t (by first | (simp; done) | (simp; omega) | omega) (fun _ => ?_)) | (refine rec_f (by first | (simp; done) | (simp; omega) | omega) (fun _ => ?_)) | (refine opt_i (gLen_str (by first | (simp; done) | (simp; omega) | omega)) ?_) | (refine opt_i (gDiv_pos (by first | (simp; done) | (simp; omega) | omega) (by first | (simp; done) | (simp; omega) | omega)) ?_) | (refine opt_i (gMd_pos (by first | (simp; done) | (simp; omega) | omega)) ?_)))); (conv => whnf)
          exact fin _ _ (fin2 0 (by simp [low]))
  · obtain ⟨rfl, b, s8, s9, s10, s11, s12, s13, rfl, hb, huv⟩ := hI
    rw [List.length_map, List.length_zip, show min as.length rs.length = rs.length by omega, List.take_length] at hb ⊢
    have u8 := huv s8 (.inl rfl)
    have u9 := huv s9 (.inr (.inl rfl))
    have u10 := huv s10 (.inr (.inr (.inl rfl)))
    have u12 := huv s12 (.inr (.inr (.inr (.inr (.inl rfl)))))
    have u13 := huv s13 (.inr (.inr (.inr (.inr (.inr rfl)))))
    have shr := show_rows (in_sh ok hr) (by omega)
    have shm := show_rows (mv_sh ok hr hp) (by simp; omega)
    have nmm : ∀ y ∈ rs.map (mvP ps), NameOk y.1 := fun y hy => (mv_sh ok hr hp y hy).nm
    (try simp only [slots0, wipeS, backS, List.map_cons, List.map_nil, List.replicate, List.set_cons_zero, List.set_cons_succ, List.getElem?_cons_zero, List.getElem?_cons_succ, List.cons_append, List.nil_append]); (repeat ((conv => whnf); (first | (refine And.intro (by first | rfl | exact Nat.le_of_ble_eq_true rfl | decide | omega | (simp; done) | (simp; omega)) ?_) | (refine rec_t (by first | (simp; done) | (simp; omega) | omega) (fun _ => ?_)) | (refine rec_f (by first | (simp; done) | (simp; omega) | omega) (fun _ => ?_)) | (refine opt_i (gLen_str (by first | (simp; done) | (simp; omega) | omega)) ?_) | (refine opt_i (gDiv_pos (by first | (simp; done) | (simp; omega) | omega) (by first | (simp; done) | (simp; omega) | omega)) ?_) | (refine opt_i (gMd_pos (by first | (simp; done) | (simp; omega) | omega)) ?_)))); (conv => whnf)
    refine s_law_moved ok h hr.s hp.nd hpl (fun g y hy => ?_) fun g => ?_
    · obtain ⟨sp, rfl⟩ := hx
      obtain ⟨sp', hy'⟩ := hy.ex
      obtain rfl : b = false := by
        cases b with
        | false => rfl
        | true => exact absurd g (hb.mp rfl)
      subst hy'
      (try simp only [slots0, wipeS, backS, List.map_cons, List.map_nil, List.replicate, List.set_cons_zero, List.set_cons_succ, List.getElem?_cons_zero, List.getElem?_cons_succ, List.cons_append, List.nil_append]); (repeat ((conv => whnf); (first | (refine And.intro (by first | rfl | exact Nat.le_of_ble_eq_true rfl | decide | omega | (simp; done) | (simp; omega)) ?_) | (refine rec_t (by first | (simp; done) | (simp; omega) | omega) (fun _ => ?_)) | (refine rec_f (by first | (simp; done) | (simp; omega) | omega) (fun _ => ?_)) | (refine opt_i (gLen_str (by first | (simp; done) | (simp; omega) | omega)) ?_) | (refine opt_i (gDiv_pos (by first | (simp; done) | (simp; omega) | omega) (by first | (simp; done) | (simp; omega) | omega)) ?_) | (refine opt_i (gMd_pos (by first | (simp; done) | (simp; omega) | omega)) ?_)))); (conv => whnf)
      refine ⟨_, toP_rows _, shm, ?_⟩
      (try simp only [slots0, wipeS, backS, List.map_cons, List.map_nil, List.replicate, List.set_cons_zero, List.set_cons_succ, List.getElem?_cons_zero, List.getElem?_cons_succ, List.cons_append, List.nil_append]); (repeat ((conv => whnf); (first | (refine And.intro (by first | rfl | exact Nat.le_of_ble_eq_true rfl | decide | omega | (simp; done) | (simp; omega)) ?_) | (refine rec_t (by first | (simp; done) | (simp; omega) | omega) (fun _ => ?_)) | (refine rec_f (by first | (simp; done) | (simp; omega) | omega) (fun _ => ?_)) | (refine opt_i (gLen_str (by first | (simp; done) | (simp; omega) | omega)) ?_) | (refine opt_i (gDiv_pos (by first | (simp; done) | (simp; omega) | omega) (by first | (simp; done) | (simp; omega) | omega)) ?_) | (refine opt_i (gMd_pos (by first | (simp; done) | (simp; omega) | omega)) ?_)))); (conv => whnf)
      refine ⟨_, toP_rows _, shm, ?_⟩
      refine opt_i (d := .bl false) (by show some (D.bl (!decide _)) = _; rw [decide_eq_true rfl]; rfl) ?_
      (try simp only [slots0, wipeS, backS, List.map_cons, List.map_nil, List.replicate, List.set_cons_zero, List.set_cons_succ, List.getElem?_cons_zero, List.getElem?_cons_succ, List.cons_append, List.nil_append]); (repeat ((conv => whnf); (first | (refine And.intro (by first | rfl | exact Nat.le_of_ble_eq_true rfl | decide | omega | (simp; done) | (simp; omega)) ?_) | (refine rec_t (by first | (simp; done) | (simp; omega) | omega) (fun _ => ?_)) | (refine rec_f (by first | (simp; done) | (simp; omega) | omega) (fun _ => ?_)) | (refine opt_i (gLen_str (by first | (simp; done) | (simp; omega) | omega)) ?_) | (refine opt_i (gDiv_pos (by first | (simp; done) | (simp; omega) | omega) (by first | (simp; done) | (simp; omega) | omega)) ?_) | (refine opt_i (gMd_pos (by first | (simp; done) | (simp; omega) | omega)) ?_)))); (conv => whnf)
      refine ⟨List.mem_cons_self, s_eq_prog ok same ?_⟩
      (try simp only [slots0, wipeS, backS, List.map_cons, List.map_nil, List.replicate, List.set_cons_zero, List.set_cons_succ, List.getElem?_cons_zero, List.getElem?_cons_succ, List.cons_append, List.nil_append]); (repeat ((conv => whnf); (first | (refine And.intro (by first | rfl | exact Nat.le_of_ble_eq_true rfl | decide | omega | (simp; done) | (simp; omega)) ?_) | (refine rec_t (by first | (simp; done) | (simp; omega) | omega) (fun _ => ?_)) | (refine rec_f (by first | (simp; done) | (simp; omega) | omega) (fun _ => ?_)) | (refine opt_i (gLen_str (by first | (simp; done) | (simp; omega) | omega)) ?_) | (refine opt_i (gDiv_pos (by first | (simp; done) | (simp; omega) | omega) (by first | (simp; done) | (simp; omega) | omega)) ?_) | (refine opt_i (gMd_pos (by first | (simp; done) | (simp; omega) | omega)) ?_)))); (conv => whnf)
      refine ⟨by rcases u9 with rfl | ⟨_, rfl⟩ <;> rcases u12 with rfl | ⟨_, rfl⟩ <;> rcases u13 with rfl | ⟨_, rfl⟩ <;> rfl, ?_⟩
      simp only [slots0, wipeS, backS, List.map_cons, List.map_nil, List.replicate, List.set_cons_zero, List.set_cons_succ, List.getElem?_cons_zero, List.getElem?_cons_succ, List.cons_append, List.nil_append]
      refine comp_mapA rowD (fun r => elD (r.1, r.2.1)) rs [] (fun r' hr2 R hR => ?_) (by simp; omega) ?_
      · (try simp only [slots0, wipeS, backS, List.map_cons, List.map_nil, List.replicate, List.set_cons_zero, List.set_cons_succ, List.getElem?_cons_zero, List.getElem?_cons_succ, List.cons_append, List.nil_append]); (repeat ((conv => whnf); (first | (refine And.intro (by first | rfl | exact Nat.le_of_ble_eq_true rfl | decide | omega | (simp; done) | (simp; omega)) ?_) | (refine rec_t (by first | (simp; done) | (simp; omega) | omega) (fun _ => ?_)) | (refine rec_f (by first | (simp; done) | (simp; omega) | omega) (fun _ => ?_)) | (refine opt_i (gLen_str (by first | (simp; done) | (simp; omega) | omega)) ?_) | (refine opt_i (gDiv_pos (by first | (simp; done) | (simp; omega) | omega) (by first | (simp; done) | (simp; omega) | omega)) ?_) | (refine opt_i (gMd_pos (by first | (simp; done) | (simp; omega) | omega)) ?_)))); (conv => whnf)
        exact hR _ (by rfl) (by rfl)
      · rw [List.nil_append, show (rs.map fun r => elD (r.1, r.2.1)) = (backP rs).map elD by unfold backP; rw [List.map_map]; rfl]
        (try simp only [slots0, wipeS, backS, List.map_cons, List.map_nil, List.replicate, List.set_cons_zero, List.set_cons_succ, List.getElem?_cons_zero, List.getElem?_cons_succ, List.cons_append, List.nil_append]); (repeat ((conv => whnf); (first | (refine And.intro (by first | rfl | exact Nat.le_of_ble_eq_true rfl | decide | omega | (simp; done) | (simp; omega)) ?_) | (refine rec_t (by first | (simp; done) | (simp; omega) | omega) (fun _ => ?_)) | (refine rec_f (by first | (simp; done) | (simp; omega) | omega) (fun _ => ?_)) | (refine opt_i (gLen_str (by first | (simp; done) | (simp; omega) | omega)) ?_) | (refine opt_i (gDiv_pos (by first | (simp; done) | (simp; omega) | omega) (by first | (simp; done) | (simp; omega) | omega)) ?_) | (refine opt_i (gMd_pos (by first | (simp; done) | (simp; omega) | omega)) ?_)))); (conv => whnf)
        refine s_law_moved ok ⟨sp', rfl⟩ (hr.s.mv ps) (by rw [back_names]; exact ndr) (by unfold backP; rw [List.length_map]; omega) (fun g2 y2 hy2 => ?_) fun g2 => ?_
        · rw [back_rows ps ndr] at hy2
          obtain ⟨sp2, hy2'⟩ := hy2.ex
          subst hy2'
          (try simp only [slots0, wipeS, backS, List.map_cons, List.map_nil, List.replicate, List.set_cons_zero, List.set_cons_succ, List.getElem?_cons_zero, List.getElem?_cons_succ, List.cons_append, List.nil_append]); (repeat ((conv => whnf); (first | (refine And.intro (by first | rfl | exact Nat.le_of_ble_eq_true rfl | decide | omega | (simp; done) | (simp; omega)) ?_) | (refine rec_t (by first | (simp; done) | (simp; omega) | omega) (fun _ => ?_)) | (refine rec_f (by first | (simp; done) | (simp; omega) | omega) (fun _ => ?_)) | (refine opt_i (gLen_str (by first | (simp; done) | (simp; omega) | omega)) ?_) | (refine opt_i (gDiv_pos (by first | (simp; done) | (simp; omega) | omega) (by first | (simp; done) | (simp; omega) | omega)) ?_) | (refine opt_i (gMd_pos (by first | (simp; done) | (simp; omega) | omega)) ?_)))); (conv => whnf)
          refine ⟨_, toP_rows _, shr, ?_⟩
          (try simp only [slots0, wipeS, backS, List.map_cons, List.map_nil, List.replicate, List.set_cons_zero, List.set_cons_succ, List.getElem?_cons_zero, List.getElem?_cons_succ, List.cons_append, List.nil_append]); (repeat ((conv => whnf); (first | (refine And.intro (by first | rfl | exact Nat.le_of_ble_eq_true rfl | decide | omega | (simp; done) | (simp; omega)) ?_) | (refine rec_t (by first | (simp; done) | (simp; omega) | omega) (fun _ => ?_)) | (refine rec_f (by first | (simp; done) | (simp; omega) | omega) (fun _ => ?_)) | (refine opt_i (gLen_str (by first | (simp; done) | (simp; omega) | omega)) ?_) | (refine opt_i (gDiv_pos (by first | (simp; done) | (simp; omega) | omega) (by first | (simp; done) | (simp; omega) | omega)) ?_) | (refine opt_i (gMd_pos (by first | (simp; done) | (simp; omega) | omega)) ?_)))); (conv => whnf)
          refine ⟨_, toP_rows _, shr, ?_⟩
          refine opt_i (d := .bl false) (by show some (D.bl (!decide _)) = _; rw [decide_eq_true rfl]; rfl) ?_
          (try simp only [slots0, wipeS, backS, List.map_cons, List.map_nil, List.replicate, List.set_cons_zero, List.set_cons_succ, List.getElem?_cons_zero, List.getElem?_cons_succ, List.cons_append, List.nil_append]); (repeat ((conv => whnf); (first | (refine And.intro (by first | rfl | exact Nat.le_of_ble_eq_true rfl | decide | omega | (simp; done) | (simp; omega)) ?_) | (refine rec_t (by first | (simp; done) | (simp; omega) | omega) (fun _ => ?_)) | (refine rec_f (by first | (simp; done) | (simp; omega) | omega) (fun _ => ?_)) | (refine opt_i (gLen_str (by first | (simp; done) | (simp; omega) | omega)) ?_) | (refine opt_i (gDiv_pos (by first | (simp; done) | (simp; omega) | omega) (by first | (simp; done) | (simp; omega) | omega)) ?_) | (refine opt_i (gMd_pos (by first | (simp; done) | (simp; omega) | omega)) ?_)))); (conv => whnf)
          refine s_eq_pl ok hy2 h nms nms same fun c hc => ?_
          obtain rfl : c = true := hc.mpr ⟨rfl, rfl⟩
          (try simp only [slots0, wipeS, backS, List.map_cons, List.map_nil, List.replicate, List.set_cons_zero, List.set_cons_succ, List.getElem?_cons_zero, List.getElem?_cons_succ, List.cons_append, List.nil_append]); (repeat ((conv => whnf); (first | (refine And.intro (by first | rfl | exact Nat.le_of_ble_eq_true rfl | decide | omega | (simp; done) | (simp; omega)) ?_) | (refine rec_t (by first | (simp; done) | (simp; omega) | omega) (fun _ => ?_)) | (refine rec_f (by first | (simp; done) | (simp; omega) | omega) (fun _ => ?_)) | (refine opt_i (gLen_str (by first | (simp; done) | (simp; omega) | omega)) ?_) | (refine opt_i (gDiv_pos (by first | (simp; done) | (simp; omega) | omega) (by first | (simp; done) | (simp; omega) | omega)) ?_) | (refine opt_i (gMd_pos (by first | (simp; done) | (simp; omega) | omega)) ?_)))); (conv => whnf)
          refine s_eq_pl ok hy h nmm nms same fun c hc => ?_
          obtain ⟨b', eb, hb'⟩ := gEq_rowsL (fun y hy3 => (nmm y hy3).ok) (fun y hy3 => (nms y hy3).ok)
          (try simp only [slots0, wipeS, backS, List.map_cons, List.map_nil, List.replicate, List.set_cons_zero, List.set_cons_succ, List.getElem?_cons_zero, List.getElem?_cons_succ, List.cons_append, List.nil_append]); (repeat ((conv => whnf); (first | (refine And.intro (by first | rfl | exact Nat.le_of_ble_eq_true rfl | decide | omega | (simp; done) | (simp; omega)) ?_) | (refine rec_t (by first | (simp; done) | (simp; omega) | omega) (fun _ => ?_)) | (refine rec_f (by first | (simp; done) | (simp; omega) | omega) (fun _ => ?_)) | (refine opt_i (gLen_str (by first | (simp; done) | (simp; omega) | omega)) ?_) | (refine opt_i (gDiv_pos (by first | (simp; done) | (simp; omega) | omega) (by first | (simp; done) | (simp; omega) | omega)) ?_) | (refine opt_i (gMd_pos (by first | (simp; done) | (simp; omega) | omega)) ?_)))); (conv => whnf)
          refine opt_i eb ?_
          refine opt_i gEq_bl ?_
          refine val2 (d' := .bl true) (congrArg D.bl ?_) k
          cases c with
          | true => rw [hb'.mpr (hc.mp rfl).2]; rfl
          | false =>
            cases b' with
            | false => rfl
            | true => exact absurd (hc.mpr ⟨rfl, hb'.mp rfl⟩) (by simp)
        · rw [back_rows ps ndr] at g2
          exact absurd (hr.good ok) g2
    · obtain rfl : b = true := hb.mpr g
      obtain ⟨sp, rfl⟩ := hx
      refine ⟨rfl, rfl, ?_⟩
      (try simp only [slots0, wipeS, backS, List.map_cons, List.map_nil, List.replicate, List.set_cons_zero, List.set_cons_succ, List.getElem?_cons_zero, List.getElem?_cons_succ, List.cons_append, List.nil_append]); (repeat ((conv => whnf); (first | (refine And.intro (by first | rfl | exact Nat.le_of_ble_eq_true rfl | decide | omega | (simp; done) | (simp; omega)) ?_) | (refine rec_t (by first | (simp; done) | (simp; omega) | omega) (fun _ => ?_)) | (refine rec_f (by first | (simp; done) | (simp; omega) | omega) (fun _ => ?_)) | (refine opt_i (gLen_str (by first | (simp; done) | (simp; omega) | omega)) ?_) | (refine opt_i (gDiv_pos (by first | (simp; done) | (simp; omega) | omega) (by first | (simp; done) | (simp; omega) | omega)) ?_) | (refine opt_i (gMd_pos (by first | (simp; done) | (simp; omega) | omega)) ?_)))); (conv => whnf)
      refine ⟨_, toP_rows _, shr, ?_⟩
      (try simp only [slots0, wipeS, backS, List.map_cons, List.map_nil, List.replicate, List.set_cons_zero, List.set_cons_succ, List.getElem?_cons_zero, List.getElem?_cons_succ, List.cons_append, List.nil_append]); (repeat ((conv => whnf); (first | (refine And.intro (by first | rfl | exact Nat.le_of_ble_eq_true rfl | decide | omega | (simp; done) | (simp; omega)) ?_) | (refine rec_t (by first | (simp; done) | (simp; omega) | omega) (fun _ => ?_)) | (refine rec_f (by first | (simp; done) | (simp; omega) | omega) (fun _ => ?_)) | (refine opt_i (gLen_str (by first | (simp; done) | (simp; omega) | omega)) ?_) | (refine opt_i (gDiv_pos (by first | (simp; done) | (simp; omega) | omega) (by first | (simp; done) | (simp; omega) | omega)) ?_) | (refine opt_i (gMd_pos (by first | (simp; done) | (simp; omega) | omega)) ?_)))); (conv => whnf)
      refine ⟨_, toP_rows _, shr, ?_⟩
      refine opt_i (d := .bl true) (by show some (D.bl (decide _)) = _; rw [decide_eq_true rfl]) ?_
      exact k
end
end K22
end
section
set_option maxHeartbeats 4000000
namespace K22
open PySem DL L2
def apFrom : Int → Arr → List Row
  | _, [] => []
  | f, a :: as => (a.1, f, .up) :: apFrom (f + a.2) as
def sumTo (as : Arr) (i : Nat) : Int := ((as.take i).map (·.2)).sum
theorem ap_names : ∀ (f : Int) (as : Arr), (apFrom f as).map (·.1) = as.map (·.1)
  | _, [] => rfl
  | f, a :: as => by
    show a.1 :: (apFrom (f + a.2) as).map (·.1) = _
    rw [ap_names]
    rfl
theorem ap_get : ∀ {as : Arr} {f : Int} {i : Nat} {a : Str × Int}, as[i]? = some a → (apFrom f as)[i]? = some (a.1, f + sumTo as i, .up)
  | [], _, _, _, h => by simp at h
  | b :: as, f, 0, a, h => by
    obtain rfl : b = a := by simpa using h
    show some (b.1, f, Lay.up) = some (b.1, f + 0, .up)
    rw [Int.add_zero]
  | b :: as, f, i + 1, a, h => by
    show (apFrom (f + b.2) as)[i]? = _
    rw [ap_get (as := as) (f := f + b.2) (i := i) (a := a) (by simpa using h)]
    show some (a.1, f + b.2 + sumTo as i, Lay.up) = some (a.1, f + (b.2 + sumTo as i), .up)
    rw [Int.add_assoc]
theorem sum_succ {as : Arr} {i : Nat} {a : Str × Int} (h : as[i]? = some a) : sumTo as (i + 1) = sumTo as i + a.2 := by
  unfold sumTo
  rw [List.take_succ, h]
  simp [List.sum_append]
theorem sum_nn : ∀ {l : Arr}, (∀ a ∈ l, 1 ≤ a.2 ∧ a.2 ≤ 1000000000000000000) → 0 ≤ (l.map (·.2)).sum ∧ (l.map (·.2)).sum ≤ 1000000000000000000 * l.length
  | [], _ => by simp
  | a :: l, h => by
    have h1 := sum_nn (l := l) fun b hb => h b (List.mem_cons_of_mem _ hb)
    have h2 := h a List.mem_cons_self
    rw [List.map_cons, List.sum_cons, List.length_cons]
    omega
theorem sum_split (as : Arr) (i : Nat) : sumTo as as.length = sumTo as i + ((as.drop i).map (·.2)).sum := by
  unfold sumTo
  rw [List.take_length, ← List.sum_append, ← List.map_append, List.take_append_drop]
section
variable {as : Arr} {lo ou wr : D} {n : Nat} {q : D → Nat → Prop}
theorem sum_le (ok : ArrOk as) (i : Nat) : 0 ≤ sumTo as i ∧ sumTo as i ≤ sumTo as as.length ∧ sumTo as as.length ≤ 6000000000000000000 := by
  have h1 := sum_nn (l := as.take i) fun a ha => ok.sizes a (List.mem_of_mem_take ha)
  have h2 := sum_nn (l := as.drop i) fun a ha => ok.sizes a (List.mem_of_mem_drop ha)
  have h3 := sum_nn (l := as) fun a ha => ok.sizes a ha
  have e := sum_split as i
  have h6 := ok.hi
  have e2 : sumTo as as.length = (as.map (·.2)).sum := by
    unfold sumTo
    rw [List.take_length]
  unfold sumTo at *
  omega
theorem ap_mem (ok : ArrOk as) {r : Row} (h : r ∈ apFrom 0 as) : ∃ i a, as[i]? = some a ∧ r = (a.1, sumTo as i, .up) := by
  obtain ⟨i, hi⟩ := List.mem_iff_getElem?.mp h
  have hl : (apFrom 0 as).length = as.length := by simpa using congrArg List.length (ap_names 0 as)
  have hi2 : i < as.length := by
    have := (List.getElem?_eq_some_iff.mp hi).1
    omega
  have e := ap_get (f := 0) (List.getElem?_eq_getElem hi2)
  rw [hi] at e
  refine ⟨i, as[i], List.getElem?_eq_getElem hi2, ?_⟩
  have := Option.some.inj e
  rw [Int.zero_add] at this
  exact this
theorem ap_len : (apFrom 0 as).length = as.length := by simpa using congrArg List.length (ap_names 0 as)
theorem ap_s (ok : ArrOk as) : RowsS as (apFrom 0 as) := ⟨ap_names 0 as, fun r hr => by
  obtain ⟨i, a, _, rfl⟩ := ap_mem ok hr
  exact trivial⟩
theorem ap_good (ok : ArrOk as) : Good as (apFrom 0 as) := fun r hr => by
  obtain ⟨i, a, _, rfl⟩ := ap_mem ok hr
  show 0 ≤ sumTo as i + 0
  have := (sum_le ok i).1
  omega
theorem ap_b (ok : ArrOk as) : RowsB as (apFrom 0 as) := ⟨ap_names 0 as, (ap_s ok).ok ok (ap_good ok), fun r hr => by
  obtain ⟨i, a, _, rfl⟩ := ap_mem ok hr
  have := sum_le ok i
  show 0 ≤ sumTo as i ∧ sumTo as i < _
  omega⟩
theorem ap_sh (ok : ArrOk as) : ∀ r ∈ apFrom 0 as, RowSh r := fun r hr => by
  have nm := names_ok ok (ap_names 0 as) r hr
  obtain ⟨i, a, _, rfl⟩ := ap_mem ok hr
  have := sum_le ok i
  exact ⟨nm, trivial, by show (sumTo as i).natAbs < _; omega⟩
theorem ap_end (ok : ArrOk as) {i : Nat} {a : Str × Int} (h : as[i]? = some a) : endOf as (a.1, sumTo as i, .up) = sumTo as (i + 1) - 1 := by
  show sumTo as i + (szOf as a.1 - 1) = _
  rw [szOf_eq (nm := a.1) (sz := a.2) ok.nodup (List.mem_of_getElem? h), sum_succ h]
  omega
theorem ap_take {i : Nat} {a : Str × Int} (h : as[i]? = some a) : ((apFrom 0 as).take (i + 1)).map rowD = ((apFrom 0 as).take i).map rowD ++ [.tup [.str a.1, .int (sumTo as i), .str "up"]] := by
  rw [List.take_succ, ap_get h, List.map_append, Int.zero_add]
  rfl
theorem s_apart (ok : ArrOk as) (k : ∀ x, PlG as lo ou wr (apFrom 0 as) x → q x n) : w_Placement_apart [.cls "Placement", progG as lo ou wr] n q := by
  have h6 := ok.hi
  have hl := ap_len (as := as)
  unfold w_Placement_apart progG arrD
  (try simp only [slots0, wipeS, backS, List.map_cons, List.map_nil, List.replicate, List.set_cons_zero, List.set_cons_succ, List.getElem?_cons_zero, List.getElem?_cons_succ, List.cons_append, List.nil_append]); (repeat ((conv => whnf); (first | (refine And.intro (by first | rfl | exact Nat.le_of_ble_eq_true rfl | decide | omega | (simp; done) | (simp; omega)) ?_) | (refine rec_t (by first | (simp; done) | (simp; omega) | omega) (fun _ => ?_)) | (refine rec_f (by first | (simp; done) | (simp; omega) | omega) (fun _ => ?_)) | (refine opt_i (gLen_str (by first | (simp; done) | (simp; omega) | omega)) ?_) | (refine opt_i (gDiv_pos (by first | (simp; done) | (simp; omega) | omega) (by first | (simp; done) | (simp; omega) | omega)) ?_) | (refine opt_i (gMd_pos (by first | (simp; done) | (simp; omega) | omega)) ?_)))); (conv => whnf)
  refine loop_inv (fun i ρ z => z = n ∧ ∃ s4 s5 : DL.Slot, ρ = [.val (.cls "Placement"), .val (progG as lo ou wr), .own (.lst (((apFrom 0 as).take i).map rowD)), .val (.int (sumTo as i)), s4, s5]) _ (fun i e ρ z he hI Z hZ => ?_) (fun ρ z hI => ?_) _ _ ⟨rfl, .un, .un, rfl⟩
  · obtain ⟨rfl, s4, s5, rfl⟩ := hI
    rw [List.getElem?_map] at he
    obtain ⟨a, ha, rfl⟩ := Option.map_eq_some_iff.mp he
    have hlt : (((apFrom 0 as).take i).map rowD).length < 100000 := by
      rw [List.length_map]
      have := List.length_take_le i (apFrom 0 as)
      have := List.length_take (l := apFrom 0 as) (i := i)
      omega
    (try simp only [slots0, wipeS, backS, List.map_cons, List.map_nil, List.replicate, List.set_cons_zero, List.set_cons_succ, List.getElem?_cons_zero, List.getElem?_cons_succ, List.cons_append, List.nil_append]); (repeat ((conv => whnf); (first | (refine And.intro (by first | rfl | exact Nat.le_of_ble_eq_true rfl | decide | omega | (simp [hlt]; done) | (simp [hlt]; omega)) ?_) | (refine rec_t (by first | (simp [hlt]; done) | (simp [hlt]; omega) | omega) (fun _ => ?_)) | (refine rec_f (by first | (simp [hlt]; done) | (simp [hlt]; omega) | omega) (fun _ => ?_)) | (refine opt_i (gLen_str (by first | (simp [hlt]; done) | (simp [hlt]; omega) | omega)) ?_) | (refine opt_i (gDiv_pos (by first | (simp [hlt]; done) | (simp [hlt]; omega) | omega) (by first | (simp [hlt]; done) | (simp [hlt]; omega) | omega)) ?_) | (refine opt_i (gMd_pos (by first | (simp [hlt]; done) | (simp [hlt]; omega) | omega)) ?_)))); (conv => whnf)
    exact hZ _ _ ⟨rfl, .val (.str a.1), .val (.int a.2), by rw [ap_take ha, sum_succ ha]; rfl⟩
  · obtain ⟨rfl, s4, s5, rfl⟩ := hI
    rw [List.length_map, ← hl, List.take_length]
    have hlen : ((apFrom 0 as).map rowD).length ≤ 6 := by simp; omega
    (try simp only [slots0, wipeS, backS, List.map_cons, List.map_nil, List.replicate, List.set_cons_zero, List.set_cons_succ, List.getElem?_cons_zero, List.getElem?_cons_succ, List.cons_append, List.nil_append]); (repeat ((conv => whnf); (first | (refine And.intro (by first | rfl | exact Nat.le_of_ble_eq_true rfl | decide | omega | (simp; done) | (simp; omega)) ?_) | (refine rec_t (by first | (simp; done) | (simp; omega) | omega) (fun _ => ?_)) | (refine rec_f (by first | (simp; done) | (simp; omega) | omega) (fun _ => ?_)) | (refine opt_i (gLen_str (by first | (simp; done) | (simp; omega) | omega)) ?_) | (refine opt_i (gDiv_pos (by first | (simp; done) | (simp; omega) | omega) (by first | (simp; done) | (simp; omega) | omega)) ?_) | (refine opt_i (gMd_pos (by first | (simp; done) | (simp; omega) | omega)) ?_)))); (conv => whnf)
    simp only [List.append_nil]
    exact s_Placement ok (List.Perm.refl _) (ap_names 0 as) ((ap_s ok).ok ok (ap_good ok)) k
theorem s_apart_right (ok : ArrOk as) (k : q (.bl true) n) : w__law_apart_right [progG as lo ou wr] n q := by
  have h6 := ok.hi
  have h1 := ok.lo
  have hl := ap_len (as := as)
  have sh := show_rows (ap_sh ok) (by omega)
  unfold w__law_apart_right progG arrD
  (try simp only [slots0, wipeS, backS, List.map_cons, List.map_nil, List.replicate, List.set_cons_zero, List.set_cons_succ, List.getElem?_cons_zero, List.getElem?_cons_succ, List.cons_append, List.nil_append]); (repeat ((conv => whnf); (first | (refine And.intro (by first | rfl | exact Nat.le_of_ble_eq_true rfl | decide | omega | (simp; done) | (simp; omega)) ?_) | (refine rec_t (by first | (simp; done) | (simp; omega) | omega) (fun _ => ?_)) | (refine rec_f (by first | (simp; done) | (simp; omega) | omega) (fun _ => ?_)) | (refine opt_i (gLen_str (by first | (simp; done) | (simp; omega) | omega)) ?_) | (refine opt_i (gDiv_pos (by first | (simp; done) | (simp; omega) | omega) (by first | (simp; done) | (simp; omega) | omega)) ?_) | (refine opt_i (gMd_pos (by first | (simp; done) | (simp; omega) | omega)) ?_)))); (conv => whnf)
  refine loop_inv (fun i ρ z => z = n ∧ ∃ s4 s5 : DL.Slot, ρ = [.val (progG as lo ou wr), .un, .own (.lst (((apFrom 0 as).take i).map rowD)), .val (.int (sumTo as i)), s4, s5]) _ (fun i e ρ z he hI Z hZ => ?_) (fun ρ z hI => ?_) _ _ ⟨rfl, .un, .un, rfl⟩
  · obtain ⟨rfl, s4, s5, rfl⟩ := hI
    rw [List.getElem?_map] at he
    obtain ⟨a, ha, rfl⟩ := Option.map_eq_some_iff.mp he
    have hlt : (((apFrom 0 as).take i).map rowD).length < 100000 := by
      rw [List.length_map]
      have := List.length_take (l := apFrom 0 as) (i := i)
      omega
    (try simp only [slots0, wipeS, backS, List.map_cons, List.map_nil, List.replicate, List.set_cons_zero, List.set_cons_succ, List.getElem?_cons_zero, List.getElem?_cons_succ, List.cons_append, List.nil_append]); (repeat ((conv => whnf); (first | (refine And.intro (by first | rfl | exact Nat.le_of_ble_eq_true rfl | decide | omega | (simp [hlt]; done) | (simp [hlt]; omega)) ?_) | (refine rec_t (by first | (simp [hlt]; done) | (simp [hlt]; omega) | omega) (fun _ => ?_)) | (refine rec_f (by first | (simp [hlt]; done) | (simp [hlt]; omega) | omega) (fun _ => ?_)) | (refine opt_i (gLen_str (by first | (simp [hlt]; done) | (simp [hlt]; omega) | omega)) ?_) | (refine opt_i (gDiv_pos (by first | (simp [hlt]; done) | (simp [hlt]; omega) | omega) (by first | (simp [hlt]; done) | (simp [hlt]; omega) | omega)) ?_) | (refine opt_i (gMd_pos (by first | (simp [hlt]; done) | (simp [hlt]; omega) | omega)) ?_)))); (conv => whnf)
    exact hZ _ _ ⟨rfl, .val (.str a.1), .val (.int a.2), by rw [ap_take ha, sum_succ ha]; rfl⟩
  · obtain ⟨rfl, s4, s5, rfl⟩ := hI
    rw [List.length_map]
    have et : (apFrom 0 as).take as.length = apFrom 0 as := by rw [← hl, List.take_length]
    rw [et]
    (try simp only [slots0, wipeS, backS, List.map_cons, List.map_nil, List.replicate, List.set_cons_zero, List.set_cons_succ, List.getElem?_cons_zero, List.getElem?_cons_succ, List.cons_append, List.nil_append]); (repeat ((conv => whnf); (first | (refine And.intro (by first | rfl | exact Nat.le_of_ble_eq_true rfl | decide | omega | (simp; done) | (simp; omega)) ?_) | (refine rec_t (by first | (simp; done) | (simp; omega) | omega) (fun _ => ?_)) | (refine rec_f (by first | (simp; done) | (simp; omega) | omega) (fun _ => ?_)) | (refine opt_i (gLen_str (by first | (simp; done) | (simp; omega) | omega)) ?_) | (refine opt_i (gDiv_pos (by first | (simp; done) | (simp; omega) | omega) (by first | (simp; done) | (simp; omega) | omega)) ?_) | (refine opt_i (gMd_pos (by first | (simp; done) | (simp; omega) | omega)) ?_)))); (conv => whnf)
    refine s_apart ok fun x hx => ?_
    obtain ⟨sp, rfl⟩ := hx.ex
    (try simp only [slots0, wipeS, backS, List.map_cons, List.map_nil, List.replicate, List.set_cons_zero, List.set_cons_succ, List.getElem?_cons_zero, List.getElem?_cons_succ, List.cons_append, List.nil_append]); (repeat ((conv => whnf); (first | (refine And.intro (by first | rfl | exact Nat.le_of_ble_eq_true rfl | decide | omega | (simp; done) | (simp; omega)) ?_) | (refine rec_t (by first | (simp; done) | (simp; omega) | omega) (fun _ => ?_)) | (refine rec_f (by first | (simp; done) | (simp; omega) | omega) (fun _ => ?_)) | (refine opt_i (gLen_str (by first | (simp; done) | (simp; omega) | omega)) ?_) | (refine opt_i (gDiv_pos (by first | (simp; done) | (simp; omega) | omega) (by first | (simp; done) | (simp; omega) | omega)) ?_) | (refine opt_i (gMd_pos (by first | (simp; done) | (simp; omega) | omega)) ?_)))); (conv => whnf)
    refine ⟨_, toP_rows _, sh, ?_⟩
    (try simp only [slots0, wipeS, backS, List.map_cons, List.map_nil, List.replicate, List.set_cons_zero, List.set_cons_succ, List.getElem?_cons_zero, List.getElem?_cons_succ, List.cons_append, List.nil_append]); (repeat ((conv => whnf); (first | (refine And.intro (by first | rfl | exact Nat.le_of_ble_eq_true rfl | decide | omega | (simp; done) | (simp; omega)) ?_) | (refine rec_t (by first | (simp; done) | (simp; omega) | omega) (fun _ => ?_)) | (refine rec_f (by first | (simp; done) | (simp; omega) | omega) (fun _ => ?_)) | (refine opt_i (gLen_str (by first | (simp; done) | (simp; omega) | omega)) ?_) | (refine opt_i (gDiv_pos (by first | (simp; done) | (simp; omega) | omega) (by first | (simp; done) | (simp; omega) | omega)) ?_) | (refine opt_i (gMd_pos (by first | (simp; done) | (simp; omega) | omega)) ?_)))); (conv => whnf)
    refine ⟨_, toP_rows _, sh, ?_⟩
    refine opt_i (d := .bl true) (by show some (D.bl (decide _)) = _; rw [decide_eq_true rfl]) ?_
    (try simp only [slots0, wipeS, backS, List.map_cons, List.map_nil, List.replicate, List.set_cons_zero, List.set_cons_succ, List.getElem?_cons_zero, List.getElem?_cons_succ, List.cons_append, List.nil_append]); (repeat ((conv => whnf); (first | (refine And.intro (by first | rfl | exact Nat.le_of_ble_eq_true rfl | decide | omega | (simp; done) | (simp; omega)) ?_) | (refine rec_t (by first | (simp; done) | (simp; omega) | omega) (fun _ => ?_)) | (refine rec_f (by first | (simp; done) | (simp; omega) | omega) (fun _ => ?_)) | (refine opt_i (gLen_str (by first | (simp; done) | (simp; omega) | omega)) ?_) | (refine opt_i (gDiv_pos (by first | (simp; done) | (simp; omega) | omega) (by first | (simp; done) | (simp; omega) | omega)) ?_) | (refine opt_i (gMd_pos (by first | (simp; done) | (simp; omega) | omega)) ?_)))); (conv => whnf)
    refine s_size_pl ok hx (ap_b ok) fun m hm hmax => ?_
    have em : m + 1 = sumTo as as.length := by
      have lo1 : sumTo as as.length - 1 ≤ m := by
        obtain ⟨j, hj⟩ : ∃ j, as.length = j + 1 := ⟨as.length - 1, by omega⟩
        have hg : as[j]? = some as[j] := List.getElem?_eq_getElem (by omega)
        have := hmax (endOf as (as[j].1, sumTo as j, .up)) (List.mem_map.mpr ⟨_, by
          have e := ap_get (f := 0) hg
          rw [Int.zero_add] at e
          exact List.mem_of_getElem? e, rfl⟩)
        rw [ap_end ok hg, ← hj] at this
        exact this
      obtain ⟨r, hr, rfl⟩ := List.mem_map.mp hm
      obtain ⟨i, a, ha, rfl⟩ := ap_mem ok hr
      rw [ap_end ok ha] at lo1 ⊢
      have := sum_le ok (i + 1)
      omega
    rw [em]
    (try simp only [slots0, wipeS, backS, List.map_cons, List.map_nil, List.replicate, List.set_cons_zero, List.set_cons_succ, List.getElem?_cons_zero, List.getElem?_cons_succ, List.cons_append, List.nil_append]); (repeat ((conv => whnf); (first | (refine And.intro (by first | rfl | exact Nat.le_of_ble_eq_true rfl | decide | omega | (simp; done) | (simp; omega)) ?_) | (refine rec_t (by first | (simp; done) | (simp; omega) | omega) (fun _ => ?_)) | (refine rec_f (by first | (simp; done) | (simp; omega) | omega) (fun _ => ?_)) | (refine opt_i (gLen_str (by first | (simp; done) | (simp; omega) | omega)) ?_) | (refine opt_i (gDiv_pos (by first | (simp; done) | (simp; omega) | omega) (by first | (simp; done) | (simp; omega) | omega)) ?_) | (refine opt_i (gMd_pos (by first | (simp; done) | (simp; omega) | omega)) ?_)))); (conv => whnf)
    refine val2 (d' := .bl true) (congrArg D.bl (decide_eq_true rfl)) k
end
end K22
end
section
namespace K22
open PySem DL
def B_law : WS :=
  (wSeq (wFor (iR1 (wCons (wC (.int 3)) wNil)) (wName 2)
    (wSeq (wAsg (wCallF (wLen 1 w__law_program) [] (wCons (wVar 1) wNil)) (wName 3))
    (wSeq (wAsg (wUn (gFld "Program" "arrays") (wVar 3)) (wName 4))
    (wSeq (wAsg (wCallF (wLen 2 w__law_places) [] (wCons (wVar 1) (wCons (wVar 4) wNil))) (wName 5))
    (wSeq (wAsg (wCallF (wLen 2 w__law_placement) [] (wCons (wVar 3) (wCons (wCallF (wLen 2 w__law_turned) [] (wCons (wVar 1) (wCons (wVar 5) wNil))) wNil))) (wName 6))
    (wSeq (wAsg (wOp gAdd (wLc (iR1 (wCons (wC (.int 4)) wNil)) (wName 8) vYes (wCallF (wLen 3 w__law_pairs) [] (wCons (wVar 1) (wCons (wVar 4) (wCons (wVar 5) wNil)))) [8]) (wLst (wCons (wLst wNil) wNil))) (wName 7))
    (wSeq (wIfS (wTest (wOp gNe (wLc (iL (wVar 7)) (wName 9) (vNot (wTest (wCallF (wLen 4 w__law_right) [] (wCons (wVar 6) (wCons (wVar 4) (wCons (wVar 5) (wCons (wVar 9) wNil))))))) (wVar 9) [9]) (wLst wNil))) (wRet (wC (.bl false))) wSkip)
    (wIfS (vNot (wTest (wCallF (wLen 1 w__law_apart_right) [] (wCons (wVar 3) wNil)))) (wRet (wC (.bl false))) wSkip))))))))
    (wRet (wC (.bl true))))
end K22
end
section
set_option maxHeartbeats 4000000
namespace K22
open PySem DL L2
/-- a list of drawn pairs as data -/
def Pd (as : Arr) (d : D) : Prop := ∃ ps : Arr, d = .lst (ps.map elD) ∧ PairsOk as ps ∧ ps.length ≤ 6
theorem pd_nil {as : Arr} : Pd as (.lst []) := ⟨[], rfl, ⟨List.nodup_nil, by simp, by simp⟩, by simp⟩
theorem s_law {q : EndsD} (k : ∀ n, q.rt (.bl true) n) : B_law q (.un :: .val (.ext 0) :: List.replicate 8 .un) 0 := by
  unfold B_law
  (try simp only [slots0, wipeS, backS, List.map_cons, List.map_nil, List.replicate, List.set_cons_zero, List.set_cons_succ, List.getElem?_cons_zero, List.getElem?_cons_succ, List.cons_append, List.nil_append]); (repeat ((conv => whnf); (first | (refine And.intro (by first | rfl | exact Nat.le_of_ble_eq_true rfl | decide | omega | (simp; done) | (simp; omega)) ?_) | (refine rec_t (by first | (simp; done) | (simp; omega) | omega) (fun _ => ?_)) | (refine rec_f (by first | (simp; done) | (simp; omega) | omega) (fun _ => ?_)) | (refine opt_i (gLen_str (by first | (simp; done) | (simp; omega) | omega)) ?_) | (refine opt_i (gDiv_pos (by first | (simp; done) | (simp; omega) | omega) (by first | (simp; done) | (simp; omega) | omega)) ?_) | (refine opt_i (gMd_pos (by first | (simp; done) | (simp; omega) | omega)) ?_)))); (conv => whnf)
  refine loop_inv (fun i ρ z => z ≤ 1000 * i ∧ ∃ s2 s3 s4 s5 s6 s7 : DL.Slot, ρ = [.un, .val (.ext 0), s2, s3, s4, s5, s6, s7, .un, .un]) _ (fun i e ρ z he hI Z hZ => ?_) (fun ρ z hI => ?_) _ _ ⟨by omega, .un, .un, .un, .un, .un, .un, rfl⟩
  · obtain ⟨z0, s2, s3, s4, s5, s6, s7, rfl⟩ := hI
    have hi : i < (rangeD 0 (Int.toNat 3)).length := (List.getElem?_eq_some_iff.mp he).1
    rw [rangeD_len] at hi
    (try simp only [slots0, wipeS, backS, List.map_cons, List.map_nil, List.replicate, List.set_cons_zero, List.set_cons_succ, List.getElem?_cons_zero, List.getElem?_cons_succ, List.cons_append, List.nil_append]); (repeat ((conv => whnf); (first | (refine And.intro (by first | rfl | exact Nat.le_of_ble_eq_true rfl | decide | omega | (simp; done) | (simp; omega)) ?_) | (refine rec_t (by first | (simp; done) | (simp; omega) | omega) (fun _ => ?_)) | (refine rec_f (by first | (simp; done) | (simp; omega) | omega) (fun _ => ?_)) | (refine opt_i (gLen_str (by first | (simp; done) | (simp; omega) | omega)) ?_) | (refine opt_i (gDiv_pos (by first | (simp; done) | (simp; omega) | omega) (by first | (simp; done) | (simp; omega) | omega)) ?_) | (refine opt_i (gMd_pos (by first | (simp; done) | (simp; omega) | omega)) ?_)))); (conv => whnf)
    refine s_program (by omega) fun as nm d ok acc hz n1 h1 h2 => ?_
    have h6 := ok.hi
    have hpos := ok.lo
    have hnm := (acc.nameOk ok).ok
    have e0 : gEq (loopsD nm d) (loopsD nm d) = some (.bl true) := by
      rw [eq_loops hnm]
      simp
    have same : EqP (loopsD nm d) (.tup []) (loopsD nm d) (.tup []) true := .inr ⟨e0, eq_none⟩
    (try simp only [slots0, wipeS, backS, List.map_cons, List.map_nil, List.replicate, List.set_cons_zero, List.set_cons_succ, List.getElem?_cons_zero, List.getElem?_cons_succ, List.cons_append, List.nil_append]); (repeat ((conv => whnf); (first | (refine And.intro (by first | rfl | exact Nat.le_of_ble_eq_true rfl | decide | omega | (simp; done) | (simp; omega)) ?_) | (refine rec_t (by first | (simp; done) | (simp; omega) | omega) (fun _ => ?_)) | (refine rec_f (by first | (simp; done) | (simp; omega) | omega) (fun _ => ?_)) | (refine opt_i (gLen_str (by first | (simp; done) | (simp; omega) | omega)) ?_) | (refine opt_i (gDiv_pos (by first | (simp; done) | (simp; omega) | omega) (by first | (simp; done) | (simp; omega) | omega)) ?_) | (refine opt_i (gMd_pos (by first | (simp; done) | (simp; omega) | omega)) ?_)))); (conv => whnf)
    refine s_places ok (by omega) fun rows ho n2 h3 h4 => ?_
    have lrows : rows.length = as.length := by simpa using congrArg List.length ho.names
    (try simp only [slots0, wipeS, backS, List.map_cons, List.map_nil, List.replicate, List.set_cons_zero, List.set_cons_succ, List.getElem?_cons_zero, List.getElem?_cons_succ, List.cons_append, List.nil_append]); (repeat ((conv => whnf); (first | (refine And.intro (by first | rfl | exact Nat.le_of_ble_eq_true rfl | decide | omega | (simp; done) | (simp; omega)) ?_) | (refine rec_t (by first | (simp; done) | (simp; omega) | omega) (fun _ => ?_)) | (refine rec_f (by first | (simp; done) | (simp; omega) | omega) (fun _ => ?_)) | (refine opt_i (gLen_str (by first | (simp; done) | (simp; omega) | omega)) ?_) | (refine opt_i (gDiv_pos (by first | (simp; done) | (simp; omega) | omega) (by first | (simp; done) | (simp; omega) | omega)) ?_) | (refine opt_i (gMd_pos (by first | (simp; done) | (simp; omega) | omega)) ?_)))); (conv => whnf)
    refine s_turned (by omega) (by omega) fun rows' po n3 h5 h7 => ?_
    (try simp only [slots0, wipeS, backS, List.map_cons, List.map_nil, List.replicate, List.set_cons_zero, List.set_cons_succ, List.getElem?_cons_zero, List.getElem?_cons_succ, List.cons_append, List.nil_append]); (repeat ((conv => whnf); (first | (refine And.intro (by first | rfl | exact Nat.le_of_ble_eq_true rfl | decide | omega | (simp; done) | (simp; omega)) ?_) | (refine rec_t (by first | (simp; done) | (simp; omega) | omega) (fun _ => ?_)) | (refine rec_f (by first | (simp; done) | (simp; omega) | omega) (fun _ => ?_)) | (refine opt_i (gLen_str (by first | (simp; done) | (simp; omega) | omega)) ?_) | (refine opt_i (gDiv_pos (by first | (simp; done) | (simp; omega) | omega) (by first | (simp; done) | (simp; omega) | omega)) ?_) | (refine opt_i (gMd_pos (by first | (simp; done) | (simp; omega) | omega)) ?_)))); (conv => whnf)
    refine s_placement ok po ho.names ho.ok fun one hone => ?_
    (try simp only [slots0, wipeS, backS, List.map_cons, List.map_nil, List.replicate, List.set_cons_zero, List.set_cons_succ, List.getElem?_cons_zero, List.getElem?_cons_succ, List.cons_append, List.nil_append]); (repeat ((conv => whnf); (first | (refine And.intro (by first | rfl | exact Nat.le_of_ble_eq_true rfl | decide | omega | (simp; done) | (simp; omega)) ?_) | (refine rec_t (by first | (simp; done) | (simp; omega) | omega) (fun _ => ?_)) | (refine rec_f (by first | (simp; done) | (simp; omega) | omega) (fun _ => ?_)) | (refine opt_i (gLen_str (by first | (simp; done) | (simp; omega) | omega)) ?_) | (refine opt_i (gDiv_pos (by first | (simp; done) | (simp; omega) | omega) (by first | (simp; done) | (simp; omega) | omega)) ?_) | (refine opt_i (gMd_pos (by first | (simp; done) | (simp; omega) | omega)) ?_)))); (conv => whnf)
    refine comp_gen (fun i acc z' => (∀ d ∈ acc, Pd as d) ∧ n3 ≤ z' ∧ z' ≤ n3 + 60 * i) _ (by rw [rangeD_len]; decide) (fun i' e' acc' z' he' hI' ha' R hR => ?_) (fun acc' z' hI' ha' => ?_) _ ⟨by simp, by omega, by omega⟩
    · obtain ⟨hp, z1, z2⟩ := hI'
      have hi' : i' < (rangeD 0 (Int.toNat 4)).length := (List.getElem?_eq_some_iff.mp he').1
      rw [rangeD_len] at hi'
      have hi4 : i' < 4 := hi'
      (try simp only [slots0, wipeS, backS, List.map_cons, List.map_nil, List.replicate, List.set_cons_zero, List.set_cons_succ, List.getElem?_cons_zero, List.getElem?_cons_succ, List.cons_append, List.nil_append]); (repeat ((conv => whnf); (first | (refine And.intro (by first | rfl | exact Nat.le_of_ble_eq_true rfl | decide | omega | (simp; done) | (simp; omega)) ?_) | (refine rec_t (by first | (simp; done) | (simp; omega) | omega) (fun _ => ?_)) | (refine rec_f (by first | (simp; done) | (simp; omega) | omega) (fun _ => ?_)) | (refine opt_i (gLen_str (by first | (simp; done) | (simp; omega) | omega)) ?_) | (refine opt_i (gDiv_pos (by first | (simp; done) | (simp; omega) | omega) (by first | (simp; done) | (simp; omega) | omega)) ?_) | (refine opt_i (gMd_pos (by first | (simp; done) | (simp; omega) | omega)) ?_)))); (conv => whnf)
      refine s_pairs ok ho (by omega) fun ps hps hpl n4 z3 z4 => ?_
      refine hR _ _ _ ⟨fun x hx => ?_, by omega, by omega⟩ (by rfl) (by rfl)
      rcases List.mem_append.mp hx with hx | hx
      · exact hp x hx
      · simp at hx
        subst hx
        exact ⟨ps, rfl, hps, hpl⟩
    · obtain ⟨hp, z1, z2⟩ := hI'
      rw [rangeD_len] at ha' z2
      have hl4 : acc'.length = 4 := ha'
      (try simp only [slots0, wipeS, backS, List.map_cons, List.map_nil, List.replicate, List.set_cons_zero, List.set_cons_succ, List.getElem?_cons_zero, List.getElem?_cons_succ, List.cons_append, List.nil_append]); (repeat ((conv => whnf); (first | (refine And.intro (by first | rfl | exact Nat.le_of_ble_eq_true rfl | decide | omega | (simp; done) | (simp; omega)) ?_) | (refine rec_t (by first | (simp; done) | (simp; omega) | omega) (fun _ => ?_)) | (refine rec_f (by first | (simp; done) | (simp; omega) | omega) (fun _ => ?_)) | (refine opt_i (gLen_str (by first | (simp; done) | (simp; omega) | omega)) ?_) | (refine opt_i (gDiv_pos (by first | (simp; done) | (simp; omega) | omega) (by first | (simp; done) | (simp; omega) | omega)) ?_) | (refine opt_i (gMd_pos (by first | (simp; done) | (simp; omega) | omega)) ?_)))); (conv => whnf)
      refine opt_i (gAdd_lst (by simp; omega)) ?_
      have hp2 : ∀ d ∈ acc' ++ [D.lst []], Pd as d := fun x hx => by
        rcases List.mem_append.mp hx with hx | hx
        · exact hp x hx
        · simp at hx
          subst hx
          exact pd_nil
      have hl5 : (acc' ++ [D.lst []]).length = 5 := by simp [hl4]
      obtain ⟨L, hL⟩ : ∃ L, acc' ++ [D.lst []] = L := ⟨_, rfl⟩
      rw [hL] at hp2 hl5 ⊢
      (try simp only [slots0, wipeS, backS, List.map_cons, List.map_nil, List.replicate, List.set_cons_zero, List.set_cons_succ, List.getElem?_cons_zero, List.getElem?_cons_succ, List.cons_append, List.nil_append]); (repeat ((conv => whnf); (first | (refine And.intro (by first | rfl | exact Nat.le_of_ble_eq_true rfl | decide | omega | (simp; done) | (simp; omega)) ?_) | (refine rec_t (by first | (simp; done) | (simp; omega) | omega) (fun _ => ?_)) | (refine rec_f (by first | (simp; done) | (simp; omega) | omega) (fun _ => ?_)) | (refine opt_i (gLen_str (by first | (simp; done) | (simp; omega) | omega)) ?_) | (refine opt_i (gDiv_pos (by first | (simp; done) | (simp; omega) | omega) (by first | (simp; done) | (simp; omega) | omega)) ?_) | (refine opt_i (gMd_pos (by first | (simp; done) | (simp; omega) | omega)) ?_)))); (conv => whnf)
      refine comp_filter (fun _ => false) id _ _ (fun x hx R Z' hR hZ' => ?_) (by simp; omega) ?_
      · obtain ⟨ps, rfl, hps, hpl⟩ := hp2 x hx
        (try simp only [slots0, wipeS, backS, List.map_cons, List.map_nil, List.replicate, List.set_cons_zero, List.set_cons_succ, List.getElem?_cons_zero, List.getElem?_cons_succ, List.cons_append, List.nil_append]); (repeat ((conv => whnf); (first | (refine And.intro (by first | rfl | exact Nat.le_of_ble_eq_true rfl | decide | omega | (simp; done) | (simp; omega)) ?_) | (refine rec_t (by first | (simp; done) | (simp; omega) | omega) (fun _ => ?_)) | (refine rec_f (by first | (simp; done) | (simp; omega) | omega) (fun _ => ?_)) | (refine opt_i (gLen_str (by first | (simp; done) | (simp; omega) | omega)) ?_) | (refine opt_i (gDiv_pos (by first | (simp; done) | (simp; omega) | omega) (by first | (simp; done) | (simp; omega) | omega)) ?_) | (refine opt_i (gMd_pos (by first | (simp; done) | (simp; omega) | omega)) ?_)))); (conv => whnf)
        refine s_right ok hone ho hps hpl same ?_
        (try simp only [slots0, wipeS, backS, List.map_cons, List.map_nil, List.replicate, List.set_cons_zero, List.set_cons_succ, List.getElem?_cons_zero, List.getElem?_cons_succ, List.cons_append, List.nil_append]); (repeat ((conv => whnf); (first | (refine And.intro (by first | rfl | exact Nat.le_of_ble_eq_true rfl | decide | omega | (simp; done) | (simp; omega)) ?_) | (refine rec_t (by first | (simp; done) | (simp; omega) | omega) (fun _ => ?_)) | (refine rec_f (by first | (simp; done) | (simp; omega) | omega) (fun _ => ?_)) | (refine opt_i (gLen_str (by first | (simp; done) | (simp; omega) | omega)) ?_) | (refine opt_i (gDiv_pos (by first | (simp; done) | (simp; omega) | omega) (by first | (simp; done) | (simp; omega) | omega)) ?_) | (refine opt_i (gMd_pos (by first | (simp; done) | (simp; omega) | omega)) ?_)))); (conv => whnf)
        exact hZ' rfl _ (by rfl) (by rfl)
      · rw [List.nil_append, show (L.filter fun _ => false) = [] by simp]
        (try simp only [slots0, wipeS, backS, List.map_cons, List.map_nil, List.replicate, List.set_cons_zero, List.set_cons_succ, List.getElem?_cons_zero, List.getElem?_cons_succ, List.cons_append, List.nil_append]); (repeat ((conv => whnf); (first | (refine And.intro (by first | rfl | exact Nat.le_of_ble_eq_true rfl | decide | omega | (simp; done) | (simp; omega)) ?_) | (refine rec_t (by first | (simp; done) | (simp; omega) | omega) (fun _ => ?_)) | (refine rec_f (by first | (simp; done) | (simp; omega) | omega) (fun _ => ?_)) | (refine opt_i (gLen_str (by first | (simp; done) | (simp; omega) | omega)) ?_) | (refine opt_i (gDiv_pos (by first | (simp; done) | (simp; omega) | omega) (by first | (simp; done) | (simp; omega) | omega)) ?_) | (refine opt_i (gMd_pos (by first | (simp; done) | (simp; omega) | omega)) ?_)))); (conv => whnf)
        refine s_apart_right ok ?_
        (try simp only [slots0, wipeS, backS, List.map_cons, List.map_nil, List.replicate, List.set_cons_zero, List.set_cons_succ, List.getElem?_cons_zero, List.getElem?_cons_succ, List.cons_append, List.nil_append]); (repeat ((conv => whnf); (first | (refine And.intro (by first | rfl | exact Nat.le_of_ble_eq_true rfl | decide | omega | (simp; done) | (simp; omega)) ?_) | (refine rec_t (by first | (simp; done) | (simp; omega) | omega) (fun _ => ?_)) | (refine rec_f (by first | (simp; done) | (simp; omega) | omega) (fun _ => ?_)) | (refine opt_i (gLen_str (by first | (simp; done) | (simp; omega) | omega)) ?_) | (refine opt_i (gDiv_pos (by first | (simp; done) | (simp; omega) | omega) (by first | (simp; done) | (simp; omega) | omega)) ?_) | (refine opt_i (gMd_pos (by first | (simp; done) | (simp; omega) | omega)) ?_)))); (conv => whnf)
        exact hZ _ _ ⟨by omega, _, _, _, _, _, _, rfl⟩
  · obtain ⟨z0, s2, s3, s4, s5, s6, s7, rfl⟩ := hI
    (try simp only [slots0, wipeS, backS, List.map_cons, List.map_nil, List.replicate, List.set_cons_zero, List.set_cons_succ, List.getElem?_cons_zero, List.getElem?_cons_succ, List.cons_append, List.nil_append]); (repeat ((conv => whnf); (first | (refine And.intro (by first | rfl | exact Nat.le_of_ble_eq_true rfl | decide | omega | (simp; done) | (simp; omega)) ?_) | (refine rec_t (by first | (simp; done) | (simp; omega) | omega) (fun _ => ?_)) | (refine rec_f (by first | (simp; done) | (simp; omega) | omega) (fun _ => ?_)) | (refine opt_i (gLen_str (by first | (simp; done) | (simp; omega) | omega)) ?_) | (refine opt_i (gDiv_pos (by first | (simp; done) | (simp; omega) | omega) (by first | (simp; done) | (simp; omega) | omega)) ?_) | (refine opt_i (gMd_pos (by first | (simp; done) | (simp; omega) | omega)) ?_)))); (conv => whnf)
    exact k _
end K22
end
section
namespace K22
open PySem L2 DL StX
section
variable {P : Program} {w : World} {K : PySem.W.Frag} {mg : Str → Option Value} {base : Heap} {CP CL CN te da ca : Addr} {tm : Tok}
theorem sc_is_integer : FnScope ["thing"] ["thing"] (defScope (topS 38)) := ⟨rfl, rfl, rfl, by decide +kernel, rfl, by decide +kernel, by decide +kernel⟩
theorem ok_is_integer {f : Addr} {fd : FuncData} (T : Txt K mg CP CL CN te tm) (F : Fun K "is_integer" "is_integer" (topS 38) f fd)  : FnOk P w K mg base CX0 1 f fd ["thing"] (spW (pr K CP CL CN da ca) 1 w_is_integer) := by
  have sc := sc_is_integer
  exact fnD 1 F sc rfl fun cdv A outer s H E hr => ⟨_, _, B_is_integer,
    (pdb_one (pds_ret (pd_and (pd_callB call_isi opc_isi T.b_isinstance (by decide +kernel) (pda_cons (pd_v 0) (pda_cons (pd_bltn (u := V.ty "int") (.ty "int") T.b_int (by decide +kernel) rfl (by intro _ _; rfl)) pda_nil))) (pd_one (pd_not (pd_callB call_isi opc_isi T.b_isinstance (by decide +kernel) (pda_cons (pd_v 0) (pda_cons (pd_bltn (u := V.ty "bool") (.ty "bool") T.b_bool (by decide +kernel) rfl (by intro _ _; rfl)) pda_nil)))))))), fun _ _ _ _ h => by unfold w_is_integer at h; exact h⟩
theorem sc_is_name : FnScope ["thing", "sign"] ["thing"] (defScope (topS 39)) := ⟨rfl, rfl, rfl, by decide +kernel, rfl, by decide +kernel, by decide +kernel⟩
theorem ok_is_name {f : Addr} {fd : FuncData} (T : Txt K mg CP CL CN te tm) (F : Fun K "is_name" "is_name" (topS 39) f fd)  : FnOk P w K mg base CX0 1 f fd ["thing"] (spW (pr K CP CL CN da ca) 1 w_is_name) := by
  have sc := sc_is_name
  exact fnD 1 F sc rfl fun cdv A outer s H E hr => ⟨_, _, B_is_name,
    (pdb_one (pds_ret (pd_and (pd_callB call_isi opc_isi T.b_isinstance (by decide +kernel) (pda_cons (pd_v 0) (pda_cons (pd_bltn (u := V.ty "str") (.ty "str") T.b_str (by decide +kernel) rfl (by intro _ _; rfl)) pda_nil))) (pd_and (pd_chain op_le op_le op2_le op2_le pd_int (pd_callB cr_len opc_len T.b_len PySem.boot_len (pda_cons (pd_v 0) pda_nil)) pd_int) (pd_one (pd_callB (cr_all rfl) opc_all T.b_all (by decide +kernel) (pda_cons (pdf_lc [(Str.ofString "sign", 1)] rfl sc.nd (pdi_str (pd_v 0)) rfl (fun _ _ _ _ _ => (pdg_n 1 sc.nd)) (fun _ _ _ _ _ => pdts_nil) (fun _ _ _ _ _ => (pd_cmp op_inD op2_in (pd_v 1) (pd_gl (.str (Str.ofString "abcdefghijklmnopqrstuvwxyzABCDEFGHIJKLMNOPQRSTUVWXYZ")) T.g_LETTERS)))).pd pda_nil))))))), fun _ _ _ _ h => by unfold w_is_name at h; exact h⟩
theorem sc_is_amount : FnScope ["thing"] ["thing"] (defScope (topS 40)) := ⟨rfl, rfl, rfl, by decide +kernel, rfl, by decide +kernel, by decide +kernel⟩
theorem ok_is_amount {f : Addr} {fd : FuncData} (T : Txt K mg CP CL CN te tm) (F : Fun K "is_amount" "is_amount" (topS 40) f fd) (G_is_integer : Gf P w K mg base (pr K CP CL CN da ca) "is_integer" 1 1 w_is_integer) : FnOk P w K mg base CX0 2 f fd ["thing"] (spW (pr K CP CL CN da ca) 1 w_is_amount) := by
  have sc := sc_is_amount
  exact fnD 1 F sc rfl fun cdv A outer s H E hr => ⟨_, _, B_is_amount,
    (pdb_one (pds_ret (pd_and (pd_g G_is_integer (hr.mono (by decide)) (pda_cons (pd_v 0) pda_nil)) (pd_one (pd_chain op_le op_le op2_le op2_le pd_int (pd_v 0) (pd_gl (.int 1000000000000000000) T.g_LARGEST)))))), fun _ _ _ _ h => by unfold w_is_amount at h; exact h⟩
theorem sc_are_ascending : FnScope ["names", "one", "other"] ["names"] (defScope (topS 41)) := ⟨rfl, rfl, rfl, by decide +kernel, rfl, by decide +kernel, by decide +kernel⟩
theorem ok_are_ascending {f : Addr} {fd : FuncData} (T : Txt K mg CP CL CN te tm) (F : Fun K "are_ascending" "are_ascending" (topS 41) f fd)  : FnOk P w K mg base CX0 1 f fd ["names"] (spW (pr K CP CL CN da ca) 1 w_are_ascending) := by
  have sc := sc_are_ascending
  exact fnD 1 F sc rfl fun cdv A outer s H E hr => ⟨_, _, B_are_ascending,
    (pdb_one (pds_ret (pd_callB (cr_all rfl) opc_all T.b_all (by decide +kernel) (pda_cons (pdf_lc [(Str.ofString "one", 1), (Str.ofString "other", 2)] rfl sc.nd (pdi_zip rfl T.b_zip (pda_cons (pd_v 0) (pda_cons (pd_slice rfl (pd_v 0) (pdo_some pd_int) pdo_none) pda_nil))) rfl (fun _ _ _ _ _ => (pdg_t rfl rfl (pdgs_cons (pdg_n 1 sc.nd) (pdgs_cons (pdg_n 2 sc.nd) pdgs_nil)))) (fun _ _ _ _ _ => pdts_nil) (fun _ _ _ _ _ => (pd_cmp op_ltA op2_ltA (pd_v 1) (pd_v 2)))).pd pda_nil)))), fun _ _ _ _ h => by unfold w_are_ascending at h; exact h⟩
theorem sc_are_arrays : FnScope ["arrays", "most", "pair", "name", "size"] ["arrays", "most"] (defScope (topS 42)) := ⟨rfl, rfl, rfl, by decide +kernel, rfl, by decide +kernel, by decide +kernel⟩
theorem ok_are_arrays {f : Addr} {fd : FuncData} (T : Txt K mg CP CL CN te tm) (F : Fun K "are_arrays" "are_arrays" (topS 42) f fd) (G_are_ascending : Gf P w K mg base (pr K CP CL CN da ca) "are_ascending" 1 1 w_are_ascending) (G_is_amount : Gf P w K mg base (pr K CP CL CN da ca) "is_amount" 2 1 w_is_amount) (G_is_name : Gf P w K mg base (pr K CP CL CN da ca) "is_name" 1 1 w_is_name) : FnOk P w K mg base CX0 3 f fd ["arrays", "most"] (spW (pr K CP CL CN da ca) 2 w_are_arrays) := by
  have sc := sc_are_arrays
  exact fnD 2 F sc rfl fun cdv A outer s H E hr => ⟨_, _, B_are_arrays,
    (pdb_cons (pds_if (pdw_or (pdt_not (pdt_val (pd_callB call_isi opc_isi T.b_isinstance (by decide +kernel) (pda_cons (pd_v 0) (pda_cons (pd_bltn (u := V.ty "tuple") (.ty "tuple") T.b_tuple (by decide +kernel) rfl (by intro _ _; rfl)) pda_nil))))) (pdw_or1 (pdt_not (pdt_chain op_le op_le op2_le op2_le pd_int (pd_callB cr_len opc_len T.b_len PySem.boot_len (pda_cons (pd_v 0) pda_nil)) (pd_v 1))))).pt (pdb_one (pds_ret pd_bl)) pdb_nil)
    (pdb_cons (pds_for PassesOwn.never rfl (pdi_tup rfl (pd_v 0)) (pdg_n 2 sc.nd)
    (pdb_one (pds_if (pdw_or (pdt_not (pdt_val (pd_callB call_isi opc_isi T.b_isinstance (by decide +kernel) (pda_cons (pd_v 2) (pda_cons (pd_bltn (u := V.ty "tuple") (.ty "tuple") T.b_tuple (by decide +kernel) rfl (by intro _ _; rfl)) pda_nil))))) (pdw_or (pdt_cmp (op_neD hr.units) op2_ne (pd_callB cr_len opc_len T.b_len PySem.boot_len (pda_cons (pd_v 2) pda_nil)) pd_int) (pdw_or (pdt_not (pdt_val (pd_g G_is_name (hr.mono (by decide)) (pda_cons (pd_ix rfl (pd_v 2) pd_int) pda_nil)))) (pdw_or1 (pdt_not (pdt_val (pd_g G_is_amount (hr.mono (by decide)) (pda_cons (pd_ix rfl (pd_v 2) pd_int) pda_nil)))))))).pt (pdb_one (pds_ret pd_bl)) pdb_nil)))
    (pdb_one (pds_ret (pd_g G_are_ascending (hr.mono (by decide)) (pda_cons (pdf_lc [(Str.ofString "name", 3), (Str.ofString "size", 4)] rfl sc.nd (pdi_tup rfl (pd_v 0)) rfl (fun _ _ _ _ _ => (pdg_t rfl rfl (pdgs_cons (pdg_n 3 sc.nd) (pdgs_cons (pdg_n 4 sc.nd) pdgs_nil)))) (fun _ _ _ _ _ => pdts_nil) (fun _ _ _ _ _ => (pd_v 3))).pd pda_nil)))))), fun _ _ _ _ h => by unfold w_are_arrays at h; exact h⟩
theorem sc_is_access : FnScope ["thing", "names", "name", "c", "d"] ["thing", "names"] (defScope (topS 43)) := ⟨rfl, rfl, rfl, by decide +kernel, rfl, by decide +kernel, by decide +kernel⟩
theorem ok_is_access {f : Addr} {fd : FuncData} (T : Txt K mg CP CL CN te tm) (F : Fun K "is_access" "is_access" (topS 43) f fd) (G_is_integer : Gf P w K mg base (pr K CP CL CN da ca) "is_integer" 1 1 w_is_integer) : FnOk P w K mg base CX0 2 f fd ["thing", "names"] (spW (pr K CP CL CN da ca) 2 w_is_access) := by
  have sc := sc_is_access
  exact fnD 2 F sc rfl fun cdv A outer s H E hr => ⟨_, _, B_is_access,
    (pdb_cons (pds_if (pdw_or (pdt_not (pdt_val (pd_callB call_isi opc_isi T.b_isinstance (by decide +kernel) (pda_cons (pd_v 0) (pda_cons (pd_bltn (u := V.ty "tuple") (.ty "tuple") T.b_tuple (by decide +kernel) rfl (by intro _ _; rfl)) pda_nil))))) (pdw_or1 (pdt_cmp (op_neD hr.units) op2_ne (pd_callB cr_len opc_len T.b_len PySem.boot_len (pda_cons (pd_v 0) pda_nil)) pd_int))).pt (pdb_one (pds_ret pd_bl)) pdb_nil)
    (pdb_cons (pds_asg (pd_v 0) (pdg_t rfl rfl (pdgs_cons (pdg_n 2 sc.nd) (pdgs_cons (pdg_n 3 sc.nd) (pdgs_cons (pdg_n 4 sc.nd) pdgs_nil)))))
    (pdb_cons (pds_if (pdw_or (pdt_not (pdt_val (pd_callB call_isi opc_isi T.b_isinstance (by decide +kernel) (pda_cons (pd_v 2) (pda_cons (pd_bltn (u := V.ty "str") (.ty "str") T.b_str (by decide +kernel) rfl (by intro _ _; rfl)) pda_nil))))) (pdw_or1 (pdt_cmp op_notInD op2_in (pd_v 2) (pd_v 1)))).pt (pdb_one (pds_ret pd_bl)) pdb_nil)
    (pdb_one (pds_ret (pd_and (pd_g G_is_integer (hr.mono (by decide)) (pda_cons (pd_v 3) pda_nil)) (pd_and (pd_chain op_le op_le op2_le op2_le (pd_un un_neg op1_neg pd_int) (pd_v 3) pd_int) (pd_and (pd_g G_is_integer (hr.mono (by decide)) (pda_cons (pd_v 4) pda_nil)) (pd_one (pd_chain op_ltA op_ltA op2_ltA op2_ltA (pd_un un_neg op1_neg (pd_gl (.int 10000000000000000000) T.g_OFFSETS)) (pd_v 4) (pd_gl (.int 10000000000000000000) T.g_OFFSETS))))))))))), fun _ _ _ _ h => by unfold w_is_access at h; exact h⟩
theorem sc_is_statement : FnScope ["thing", "names", "count", "reads", "read"] ["thing", "names", "count"] (defScope (topS 44)) := ⟨rfl, rfl, rfl, by decide +kernel, rfl, by decide +kernel, by decide +kernel⟩
theorem ok_is_statement {f : Addr} {fd : FuncData} (T : Txt K mg CP CL CN te tm) (F : Fun K "is_statement" "is_statement" (topS 44) f fd) (G_is_access : Gf P w K mg base (pr K CP CL CN da ca) "is_access" 2 2 w_is_access) : FnOk P w K mg base CX0 3 f fd ["thing", "names", "count"] (spW (pr K CP CL CN da ca) 3 w_is_statement) := by
  have sc := sc_is_statement
  exact fnD 3 F sc rfl fun cdv A outer s H E hr => ⟨_, _, B_is_statement,
    (pdb_cons (pds_if (pdw_or (pdt_not (pdt_val (pd_callB call_isi opc_isi T.b_isinstance (by decide +kernel) (pda_cons (pd_v 0) (pda_cons (pd_bltn (u := V.ty "tuple") (.ty "tuple") T.b_tuple (by decide +kernel) rfl (by intro _ _; rfl)) pda_nil))))) (pdw_or (pdt_cmp (op_neD hr.units) op2_ne (pd_callB cr_len opc_len T.b_len PySem.boot_len (pda_cons (pd_v 0) pda_nil)) pd_int) (pdw_or1 (pdt_not (pdt_val (pd_g G_is_access (hr.mono (by decide)) (pda_cons (pd_slice rfl (pd_v 0) pdo_none (pdo_some pd_int)) (pda_cons (pd_v 1) pda_nil)))))))).pt (pdb_one (pds_ret pd_bl)) pdb_nil)
    (pdb_cons (pds_if (pdw_and (pdt_cmp (op_eqD hr.units) op2_eq (pd_ix rfl (pd_v 0) pd_int) pd_int) (pdw_and1 (pdt_cmp (op_neD hr.units) op2_ne (pd_v 2) pd_int))).pt (pdb_one (pds_ret pd_bl)) pdb_nil)
    (pdb_cons (pds_set 3 sc.nd (pd_ix rfl (pd_v 0) pd_int))
    (pdb_cons (pds_if (pdw_or (pdt_not (pdt_val (pd_callB call_isi opc_isi T.b_isinstance (by decide +kernel) (pda_cons (pd_v 3) (pda_cons (pd_bltn (u := V.ty "tuple") (.ty "tuple") T.b_tuple (by decide +kernel) rfl (by intro _ _; rfl)) pda_nil))))) (pdw_or1 (pdt_cmp op_gt op2_gt (pd_callB cr_len opc_len T.b_len PySem.boot_len (pda_cons (pd_v 3) pda_nil)) (pd_gl (.int 3) T.g_MOST_READS)))).pt (pdb_one (pds_ret pd_bl)) pdb_nil)
    (pdb_one (pds_ret (pd_callB (cr_all rfl) opc_all T.b_all (by decide +kernel) (pda_cons (pdf_lc [(Str.ofString "read", 4)] rfl sc.nd (pdi_tup rfl (pd_v 3)) rfl (fun _ _ _ _ _ => (pdg_n 4 sc.nd)) (fun _ _ _ _ _ => pdts_nil) (fun _ _ _ _ _ => (pd_g G_is_access (hr.mono (by decide)) (pda_cons (pd_v 4) (pda_cons (pd_v 1) pda_nil))))).pd pda_nil)))))))), fun _ _ _ _ h => by unfold w_is_statement at h; exact h⟩
theorem sc_are_loops : FnScope ["loops", "names", "many", "pair", "statement"] ["loops", "names"] (defScope (topS 45)) := ⟨rfl, rfl, rfl, by decide +kernel, rfl, by decide +kernel, by decide +kernel⟩
theorem ok_are_loops {f : Addr} {fd : FuncData} (T : Txt K mg CP CL CN te tm) (F : Fun K "are_loops" "are_loops" (topS 45) f fd) (G_is_amount : Gf P w K mg base (pr K CP CL CN da ca) "is_amount" 2 1 w_is_amount) (G_is_statement : Gf P w K mg base (pr K CP CL CN da ca) "is_statement" 3 3 w_is_statement) : FnOk P w K mg base CX0 4 f fd ["loops", "names"] (spW (pr K CP CL CN da ca) 2 w_are_loops) := by
  have sc := sc_are_loops
  exact fnD 2 F sc rfl fun cdv A outer s H E hr => ⟨_, _, B_are_loops,
    (pdb_cons (pds_if (pdw_or (pdt_not (pdt_val (pd_callB call_isi opc_isi T.b_isinstance (by decide +kernel) (pda_cons (pd_v 0) (pda_cons (pd_bltn (u := V.ty "tuple") (.ty "tuple") T.b_tuple (by decide +kernel) rfl (by intro _ _; rfl)) pda_nil))))) (pdw_or1 (pdt_not (pdt_chain op_le op_le op2_le op2_le pd_int (pd_callB cr_len opc_len T.b_len PySem.boot_len (pda_cons (pd_v 0) pda_nil)) (pd_gl (.int 4) T.g_MOST_LOOPS))))).pt (pdb_one (pds_ret pd_bl)) pdb_nil)
    (pdb_cons (pds_set 2 sc.nd pd_int)
    (pdb_cons (pds_for PassesOwn.never rfl (pdi_tup rfl (pd_v 0)) (pdg_n 3 sc.nd)
    (pdb_cons (pds_if (pdw_or (pdt_not (pdt_val (pd_callB call_isi opc_isi T.b_isinstance (by decide +kernel) (pda_cons (pd_v 3) (pda_cons (pd_bltn (u := V.ty "tuple") (.ty "tuple") T.b_tuple (by decide +kernel) rfl (by intro _ _; rfl)) pda_nil))))) (pdw_or (pdt_cmp (op_neD hr.units) op2_ne (pd_callB cr_len opc_len T.b_len PySem.boot_len (pda_cons (pd_v 3) pda_nil)) pd_int) (pdw_or (pdt_not (pdt_val (pd_g G_is_amount (hr.mono (by decide)) (pda_cons (pd_ix rfl (pd_v 3) pd_int) pda_nil)))) (pdw_or1 (pdt_not (pdt_val (pd_callB call_isi opc_isi T.b_isinstance (by decide +kernel) (pda_cons (pd_ix rfl (pd_v 3) pd_int) (pda_cons (pd_bltn (u := V.ty "tuple") (.ty "tuple") T.b_tuple (by decide +kernel) rfl (by intro _ _; rfl)) pda_nil))))))))).pt (pdb_one (pds_ret pd_bl)) pdb_nil)
    (pdb_cons (pds_aug 2 sc.nd (pd_callB cr_len opc_len T.b_len PySem.boot_len (pda_cons (pd_ix rfl (pd_v 3) pd_int) pda_nil)))
    (pdb_cons (pds_if (pdw_or (pdt_cmp (op_eqD hr.units) op2_eq (pd_callB cr_len opc_len T.b_len PySem.boot_len (pda_cons (pd_ix rfl (pd_v 3) pd_int) pda_nil)) pd_int) (pdw_or1 (pdt_cmp op_gt op2_gt (pd_v 2) (pd_gl (.int 8) T.g_MOST_STATEMENTS)))).pt (pdb_one (pds_ret pd_bl)) pdb_nil)
    (pdb_one (pds_if (pdt_not (pdt_val (pd_callB (cr_all rfl) opc_all T.b_all (by decide +kernel) (pda_cons (pdf_lc [(Str.ofString "statement", 4)] rfl sc.nd (pdi_tup rfl (pd_ix rfl (pd_v 3) pd_int)) rfl (fun _ _ _ _ _ => (pdg_n 4 sc.nd)) (fun _ _ _ _ _ => pdts_nil) (fun _ _ _ _ _ => (pd_g G_is_statement (hr.mono (by decide)) (pda_cons (pd_v 4) (pda_cons (pd_v 1) (pda_cons (pd_ix rfl (pd_v 3) pd_int) pda_nil)))))).pd pda_nil)))) (pdb_one (pds_ret pd_bl)) pdb_nil))))))
    (pdb_one (pds_ret pd_bl))))), fun _ _ _ _ h => by unfold w_are_loops at h; exact h⟩
theorem sc_are_outputs : FnScope ["outputs", "names", "name"] ["outputs", "names"] (defScope (topS 46)) := ⟨rfl, rfl, rfl, by decide +kernel, rfl, by decide +kernel, by decide +kernel⟩
theorem ok_are_outputs {f : Addr} {fd : FuncData} (T : Txt K mg CP CL CN te tm) (F : Fun K "are_outputs" "are_outputs" (topS 46) f fd) (G_are_ascending : Gf P w K mg base (pr K CP CL CN da ca) "are_ascending" 1 1 w_are_ascending) : FnOk P w K mg base CX0 2 f fd ["outputs", "names"] (spW (pr K CP CL CN da ca) 2 w_are_outputs) := by
  have sc := sc_are_outputs
  exact fnD 2 F sc rfl fun cdv A outer s H E hr => ⟨_, _, B_are_outputs,
    (pdb_cons (pds_if (pdt_not (pdt_val (pd_callB call_isi opc_isi T.b_isinstance (by decide +kernel) (pda_cons (pd_v 0) (pda_cons (pd_bltn (u := V.ty "tuple") (.ty "tuple") T.b_tuple (by decide +kernel) rfl (by intro _ _; rfl)) pda_nil))))) (pdb_one (pds_ret pd_bl)) pdb_nil)
    (pdb_one (pds_ret (pd_and (pd_callB (cr_all rfl) opc_all T.b_all (by decide +kernel) (pda_cons (pdf_lc [(Str.ofString "name", 2)] rfl sc.nd (pdi_tup rfl (pd_v 0)) rfl (fun _ _ _ _ _ => (pdg_n 2 sc.nd)) (fun _ _ _ _ _ => pdts_nil) (fun _ _ _ _ _ => (pd_and (pd_callB call_isi opc_isi T.b_isinstance (by decide +kernel) (pda_cons (pd_v 2) (pda_cons (pd_bltn (u := V.ty "str") (.ty "str") T.b_str (by decide +kernel) rfl (by intro _ _; rfl)) pda_nil))) (pd_one (pd_cmp op_inD op2_in (pd_v 2) (pd_v 1)))))).pd pda_nil)) (pd_one (pd_g G_are_ascending (hr.mono (by decide)) (pda_cons (pd_v 0) pda_nil))))))), fun _ _ _ _ h => by unfold w_are_outputs at h; exact h⟩
theorem sc_all_writers : FnScope ["loops", "found", "at", "count", "statements", "row", "name", "c", "d", "reads"] ["loops"] (defScope (topS 47)) := ⟨rfl, rfl, rfl, by decide +kernel, rfl, by decide +kernel, by decide +kernel⟩
theorem ok_all_writers {f : Addr} {fd : FuncData} (T : Txt K mg CP CL CN te tm) (F : Fun K "all_writers" "all_writers" (topS 47) f fd)  : FnOk P w K mg base CX0 1 f fd ["loops"] (spW (pr K CP CL CN da ca) 1 w_all_writers) := by
  have sc := sc_all_writers
  exact fnD 1 F sc rfl fun cdv A outer s H E hr => ⟨_, _, B_all_writers,
    (pdb_cons (pds_setO 1 sc.nd (pdf_lst pda_nil))
    (pdb_cons (pds_for PassesOwn.never rfl (pdi_enum rfl T.b_enumerate (pda_cons (pd_v 0) pda_nil)) (pdg_t rfl rfl (pdgs_cons (pdg_n 2 sc.nd) (pdgs_cons (pdg_t rfl rfl (pdgs_cons (pdg_n 3 sc.nd) (pdgs_cons (pdg_n 4 sc.nd) pdgs_nil))) pdgs_nil)))
    (pdb_one (pds_for PassesOwn.never rfl (pdi_enum rfl T.b_enumerate (pda_cons (pd_v 4) pda_nil)) (pdg_t rfl rfl (pdgs_cons (pdg_n 5 sc.nd) (pdgs_cons (pdg_t rfl rfl (pdgs_cons (pdg_n 6 sc.nd) (pdgs_cons (pdg_n 7 sc.nd) (pdgs_cons (pdg_n 8 sc.nd) (pdgs_cons (pdg_n 9 sc.nd) pdgs_nil))))) pdgs_nil)))
    (pdb_one (pds_expr (pd_app 1 rfl (pd_tup (pda_cons (pd_tup (pda_cons (pd_v 2) (pda_cons (pd_v 5) pda_nil))) (pda_cons (pd_v 6) (pda_cons (pd_tup (pda_cons (pd_v 7) (pda_cons (pd_v 8) (pda_cons (pd_v 3) pda_nil)))) pda_nil))))))))))
    (pdb_one (pds_ret (pd_callT call_tuple_of opc_tuple T.b_tuple (by decide +kernel) (pda_cons (pd_v 1) pda_nil)))))), fun _ _ _ _ h => by unfold w_all_writers at h; exact h⟩
theorem sc_all_reads : FnScope ["loops", "found", "at", "count", "statements", "row", "target", "c", "d", "reads", "number", "name", "read_c", "read_d"] ["loops"] (defScope (topS 48)) := ⟨rfl, rfl, rfl, by decide +kernel, rfl, by decide +kernel, by decide +kernel⟩
theorem ok_all_reads {f : Addr} {fd : FuncData} (T : Txt K mg CP CL CN te tm) (F : Fun K "all_reads" "all_reads" (topS 48) f fd)  : FnOk P w K mg base CX0 1 f fd ["loops"] (spW (pr K CP CL CN da ca) 1 w_all_reads) := by
  have sc := sc_all_reads
  exact fnD 1 F sc rfl fun cdv A outer s H E hr => ⟨_, _, B_all_reads,
    (pdb_cons (pds_setO 1 sc.nd (pdf_lst pda_nil))
    (pdb_cons (pds_for PassesOwn.never rfl (pdi_enum rfl T.b_enumerate (pda_cons (pd_v 0) pda_nil)) (pdg_t rfl rfl (pdgs_cons (pdg_n 2 sc.nd) (pdgs_cons (pdg_t rfl rfl (pdgs_cons (pdg_n 3 sc.nd) (pdgs_cons (pdg_n 4 sc.nd) pdgs_nil))) pdgs_nil)))
    (pdb_one (pds_for PassesOwn.never rfl (pdi_enum rfl T.b_enumerate (pda_cons (pd_v 4) pda_nil)) (pdg_t rfl rfl (pdgs_cons (pdg_n 5 sc.nd) (pdgs_cons (pdg_t rfl rfl (pdgs_cons (pdg_n 6 sc.nd) (pdgs_cons (pdg_n 7 sc.nd) (pdgs_cons (pdg_n 8 sc.nd) (pdgs_cons (pdg_n 9 sc.nd) pdgs_nil))))) pdgs_nil)))
    (pdb_one (pds_for PassesOwn.never rfl (pdi_enum rfl T.b_enumerate (pda_cons (pd_v 9) pda_nil)) (pdg_t rfl rfl (pdgs_cons (pdg_n 10 sc.nd) (pdgs_cons (pdg_t rfl rfl (pdgs_cons (pdg_n 11 sc.nd) (pdgs_cons (pdg_n 12 sc.nd) (pdgs_cons (pdg_n 13 sc.nd) pdgs_nil)))) pdgs_nil)))
    (pdb_one (pds_expr (pd_app 1 rfl (pd_tup (pda_cons (pd_tup (pda_cons (pd_v 2) (pda_cons (pd_v 5) (pda_cons (pd_v 10) pda_nil)))) (pda_cons (pd_v 11) (pda_cons (pd_tup (pda_cons (pd_v 12) (pda_cons (pd_v 13) (pda_cons (pd_v 3) pda_nil)))) pda_nil))))))))))))
    (pdb_one (pds_ret (pd_callT call_tuple_of opc_tuple T.b_tuple (by decide +kernel) (pda_cons (pd_v 1) pda_nil)))))), fun _ _ _ _ h => by unfold w_all_reads at h; exact h⟩
theorem sc_first_out : FnScope ["access", "size", "stride", "offset", "count", "at"] ["access", "size"] (defScope (topS 25)) := ⟨rfl, rfl, rfl, by decide +kernel, rfl, by decide +kernel, by decide +kernel⟩
theorem ok_first_out {f : Addr} {fd : FuncData} (T : Txt K mg CP CL CN te tm) (F : Fun K "first_out" "first_out" (topS 25) f fd)  : FnOk P w K mg base CX0 1 f fd ["access", "size"] (spW (pr K CP CL CN da ca) 2 w_first_out) := by
  have sc := sc_first_out
  exact fnD 2 F sc rfl fun cdv A outer s H E hr => ⟨_, _, B_first_out,
    (pdb_cons (pds_asg (pd_v 0) (pdg_t rfl rfl (pdgs_cons (pdg_n 2 sc.nd) (pdgs_cons (pdg_n 3 sc.nd) (pdgs_cons (pdg_n 4 sc.nd) pdgs_nil)))))
    (pdb_cons (pds_if (pdw_or (pdt_cmp op_ltA op2_ltA (pd_v 3) pd_int) (pdw_or1 (pdt_cmp op_ge op2_ge (pd_v 3) (pd_v 1)))).pt (pdb_one (pds_ret pd_int)) pdb_nil)
    (pdb_cons (pds_if (pdt_cmp (op_eqD hr.units) op2_eq (pd_v 2) pd_int) (pdb_one (pds_ret pd_non)) pdb_nil)
    (pdb_cons (pds_if (pdt_cmp op_gt op2_gt (pd_v 2) pd_int) (pdb_one (pds_set 5 sc.nd (pd_un un_neg op1_neg (pd_op op_divD op2_div (pd_op op_sub op2_sub (pd_v 3) (pd_v 1)) (pd_v 2))))) (pdb_one (pds_set 5 sc.nd (pd_op op_addD op2_add (pd_op op_divD op2_div (pd_v 3) (pd_un un_neg op1_neg (pd_v 2))) pd_int))))
    (pdb_one (pds_ret (pd_if (pdt_cmp op_ltA op2_ltA (pd_v 5) (pd_v 4)) (pd_v 5) pd_non))))))), fun _ _ _ _ h => by unfold w_first_out at h; exact h⟩
theorem sc_at_most : FnScope ["low", "high", "base", "rise", "most"] ["low", "high", "base", "rise", "most"] (defScope (topS 24)) := ⟨rfl, rfl, rfl, by decide +kernel, rfl, by decide +kernel, by decide +kernel⟩
theorem ok_at_most {f : Addr} {fd : FuncData} (T : Txt K mg CP CL CN te tm) (F : Fun K "at_most" "at_most" (topS 24) f fd)  : FnOk P w K mg base CX0 1 f fd ["low", "high", "base", "rise", "most"] (spW (pr K CP CL CN da ca) 5 w_at_most) := by
  have sc := sc_at_most
  exact fnD 5 F sc rfl fun cdv A outer s H E hr => ⟨_, _, B_at_most,
    (pdb_cons (pds_if (pdt_cmp op_gt op2_gt (pd_v 3) pd_int) (pdb_one (pds_ret (pd_tup (pda_cons (pd_v 0) (pda_cons (pd_callB (call_min2 rfl) opc_min2 T.b_min (by decide +kernel) (pda_cons (pd_v 1) (pda_cons (pd_op op_divD op2_div (pd_op op_sub op2_sub (pd_v 4) (pd_v 2)) (pd_v 3)) pda_nil))) pda_nil))))) pdb_nil)
    (pdb_cons (pds_if (pdt_cmp op_ltA op2_ltA (pd_v 3) pd_int) (pdb_one (pds_ret (pd_tup (pda_cons (pd_callB (call_max2 rfl) opc_max2 T.b_max (by decide +kernel) (pda_cons (pd_v 0) (pda_cons (pd_un un_neg op1_neg (pd_op op_divD op2_div (pd_op op_sub op2_sub (pd_v 4) (pd_v 2)) (pd_un un_neg op1_neg (pd_v 3)))) pda_nil))) (pda_cons (pd_v 1) pda_nil))))) pdb_nil)
    (pdb_cons (pds_if (pdt_cmp op_le op2_le (pd_v 2) (pd_v 4)) (pdb_one (pds_ret (pd_tup (pda_cons (pd_v 0) (pda_cons (pd_v 1) pda_nil))))) pdb_nil)
    (pdb_one (pds_ret (pd_tup (pda_cons (pd_v 0) (pda_cons (pd_op op_sub op2_sub (pd_v 0) pd_int) pda_nil)))))))), fun _ _ _ _ h => by unfold w_at_most at h; exact h⟩
theorem sc_last_step : FnScope ["count", "residue"] ["count", "residue"] (defScope (topS 26)) := ⟨rfl, rfl, rfl, by decide +kernel, rfl, by decide +kernel, by decide +kernel⟩
theorem ok_last_step {f : Addr} {fd : FuncData} (T : Txt K mg CP CL CN te tm) (F : Fun K "last_step" "last_step" (topS 26) f fd)  : FnOk P w K mg base CX0 1 f fd ["count", "residue"] (spW (pr K CP CL CN da ca) 2 w_last_step) := by
  have sc := sc_last_step
  exact fnD 2 F sc rfl fun cdv A outer s H E hr => ⟨_, _, B_last_step,
    (pdb_one (pds_ret (pd_op op_divD op2_div (pd_op op_sub op2_sub (pd_op op_sub op2_sub (pd_v 0) pd_int) (pd_v 1)) (pd_gl (.int 6) T.g_ROUND)))), fun _ _ _ _ h => by unfold w_last_step at h; exact h⟩
theorem sc_meeting : FnScope ["access", "residue", "source", "other_stride", "gap", "stride", "offset", "count", "slack", "base", "rise", "first", "last", "other_offset", "other_count"] ["access", "residue", "source"] (defScope (topS 27)) := ⟨rfl, rfl, rfl, by decide +kernel, rfl, by decide +kernel, by decide +kernel⟩
theorem ok_meeting {f : Addr} {fd : FuncData} (T : Txt K mg CP CL CN te tm) (F : Fun K "meeting" "meeting" (topS 27) f fd) (G_at_most : Gf P w K mg base (pr K CP CL CN da ca) "at_most" 1 5 w_at_most) (G_last_step : Gf P w K mg base (pr K CP CL CN da ca) "last_step" 1 2 w_last_step) : FnOk P w K mg base CX0 2 f fd ["access", "residue", "source"] (spW (pr K CP CL CN da ca) 3 w_meeting) := by
  have sc := sc_meeting
  exact fnD 3 F sc rfl fun cdv A outer s H E hr => ⟨_, _, B_meeting,
    (pdb_cons (pds_asg (pd_v 0) (pdg_t rfl rfl (pdgs_cons (pdg_n 5 sc.nd) (pdgs_cons (pdg_n 6 sc.nd) (pdgs_cons (pdg_n 7 sc.nd) pdgs_nil)))))
    (pdb_cons (pds_asg (pd_v 2) (pdg_t rfl rfl (pdgs_cons (pdg_t rfl rfl (pdgs_cons (pdg_n 3 sc.nd) (pdgs_cons (pdg_n 13 sc.nd) (pdgs_cons (pdg_n 14 sc.nd) pdgs_nil)))) (pdgs_cons (pdg_n 8 sc.nd) pdgs_nil))))
    (pdb_cons (pds_set 3 sc.nd (pd_if (pdt_cmp (op_eqD hr.units) op2_eq (pd_v 3) pd_int) pd_int (pd_v 3)))
    (pdb_cons (pds_set 4 sc.nd (pd_op op_sub op2_sub (pd_op op_addD op2_add (pd_op op_mul op2_mul (pd_v 5) (pd_v 1)) (pd_v 6)) (pd_v 13)))
    (pdb_cons (pds_if (pdt_cmp (op_neD hr.units) op2_ne (pd_op op_modD op2_md (pd_v 4) (pd_v 3)) pd_int) (pdb_one (pds_ret (pd_tup (pda_cons pd_int (pda_cons (pd_un un_neg op1_neg pd_int) pda_nil))))) pdb_nil)
    (pdb_cons (pds_par 9 10 rfl sc.nd (pda_cons (pd_op op_divD op2_div (pd_v 4) (pd_v 3)) (pda_cons (pd_op op_divD op2_div (pd_op op_mul op2_mul (pd_gl (.int 6) T.g_ROUND) (pd_v 5)) (pd_v 3)) pda_nil)))
    (pdb_cons (pds_asg (pd_g G_at_most (hr.mono (by decide)) (pda_cons pd_int (pda_cons (pd_g G_last_step (hr.mono (by decide)) (pda_cons (pd_v 7) (pda_cons (pd_v 1) pda_nil))) (pda_cons (pd_v 9) (pda_cons (pd_v 10) (pda_cons (pd_op op_sub op2_sub (pd_v 14) pd_int) pda_nil)))))) (pdg_t rfl rfl (pdgs_cons (pdg_n 11 sc.nd) (pdgs_cons (pdg_n 12 sc.nd) pdgs_nil))))
    (pdb_cons (pds_asg (pd_g G_at_most (hr.mono (by decide)) (pda_cons (pd_v 11) (pda_cons (pd_v 12) (pda_cons (pd_un un_neg op1_neg (pd_v 9)) (pda_cons (pd_un un_neg op1_neg (pd_v 10)) (pda_cons pd_int pda_nil)))))) (pdg_t rfl rfl (pdgs_cons (pdg_n 11 sc.nd) (pdgs_cons (pdg_n 12 sc.nd) pdgs_nil))))
    (pdb_cons (pds_if (pdt_cmp op_isN op2_isN (pd_v 8) pd_non) (pdb_one (pds_ret (pd_tup (pda_cons (pd_v 11) (pda_cons (pd_v 12) pda_nil))))) pdb_nil)
    (pdb_one (pds_ret (pd_g G_at_most (hr.mono (by decide)) (pda_cons (pd_v 11) (pda_cons (pd_v 12) (pda_cons (pd_op op_sub op2_sub (pd_v 9) (pd_v 1)) (pda_cons (pd_op op_sub op2_sub (pd_v 10) (pd_gl (.int 6) T.g_ROUND)) (pda_cons (pd_un un_neg op1_neg (pd_v 8)) pda_nil))))))))))))))))), fun _ _ _ _ h => by unfold w_meeting at h; exact h⟩
theorem sc_first_met : FnScope ["access", "source", "found", "residue", "first", "last"] ["access", "source"] (defScope (topS 29)) := ⟨rfl, rfl, rfl, by decide +kernel, rfl, by decide +kernel, by decide +kernel⟩
theorem ok_first_met {f : Addr} {fd : FuncData} (T : Txt K mg CP CL CN te tm) (F : Fun K "first_met" "first_met" (topS 29) f fd) (G_meeting : Gf P w K mg base (pr K CP CL CN da ca) "meeting" 2 3 w_meeting) : FnOk P w K mg base CX0 3 f fd ["access", "source"] (spW (pr K CP CL CN da ca) 2 w_first_met) := by
  have sc := sc_first_met
  exact fnD 2 F sc rfl fun cdv A outer s H E hr => ⟨_, _, B_first_met,
    (pdb_cons (pds_setO 2 sc.nd (pdf_lst pda_nil))
    (pdb_cons (pds_for PassesOwn.never rfl (pdi_range1 T.b_range (pda_cons (pd_gl (.int 6) T.g_ROUND) pda_nil)) (pdg_n 3 sc.nd)
    (pdb_cons (pds_asg (pd_g G_meeting (hr.mono (by decide)) (pda_cons (pd_v 0) (pda_cons (pd_v 3) (pda_cons (pd_v 1) pda_nil)))) (pdg_t rfl rfl (pdgs_cons (pdg_n 4 sc.nd) (pdgs_cons (pdg_n 5 sc.nd) pdgs_nil))))
    (pdb_one (pds_if (pdt_cmp op_le op2_le (pd_v 4) (pd_v 5)) (pdb_one (pds_expr (pd_app 2 rfl (pd_op op_addD op2_add (pd_v 3) (pd_op op_mul op2_mul (pd_gl (.int 6) T.g_ROUND) (pd_v 4)))))) pdb_nil))))
    (pdb_one (pds_ret (pd_minE rfl rfl T.b_min (pd_v 2)))))), fun _ _ _ _ h => by unfold w_first_met at h; exact h⟩
theorem sc_Program_inputs : FnScope ["self", "written", "place", "name", "access", "size"] ["self"] (defScope (inClass (topS 53) 4)) := ⟨rfl, rfl, rfl, by decide +kernel, rfl, by decide +kernel, by decide +kernel⟩
theorem ok_Program_inputs {f : Addr} {fd : FuncData} (T : Txt K mg CP CL CN te tm) (F : Fun K "inputs" "Program.inputs" (inClass (topS 53) 4) f fd)  : FnOk P w K mg base CX0 1 f fd ["self"] (spW (pr K CP CL CN da ca) 1 w_Program_inputs) := by
  have sc := sc_Program_inputs
  exact fnD 1 F sc rfl fun cdv A outer s H E hr => ⟨_, _, B_Program_inputs,
    (pdb_cons (pds_set 1 sc.nd (pdf_lc [(Str.ofString "place", 2), (Str.ofString "name", 3), (Str.ofString "access", 4)] rfl sc.nd (pdi_tup rfl (pd_fld "Program" rfl T.cp_Program T.na_Program_writers (pd_v 0))) rfl (fun _ _ _ _ _ => (pdg_t rfl rfl (pdgs_cons (pdg_n 2 sc.nd) (pdgs_cons (pdg_n 3 sc.nd) (pdgs_cons (pdg_n 4 sc.nd) pdgs_nil))))) (fun _ _ _ _ _ => pdts_nil) (fun _ _ _ _ _ => (pd_v 3))).pd)
    (pdb_one (pds_ret (pd_callT call_tuple_of opc_tuple T.b_tuple (by decide +kernel) (pda_cons (pdf_lc [(Str.ofString "name", 3), (Str.ofString "size", 5)] rfl sc.nd (pdi_tup rfl (pd_fld "Program" rfl T.cp_Program T.na_Program_arrays (pd_v 0))) rfl (fun _ _ _ _ _ => (pdg_t rfl rfl (pdgs_cons (pdg_n 3 sc.nd) (pdgs_cons (pdg_n 5 sc.nd) pdgs_nil)))) (fun _ _ _ _ _ => (pdts_one (pdt_cmp op_notInD op2_in (pd_v 3) (pd_v 1)))) (fun _ _ _ _ _ => (pd_v 3))).pd pda_nil))))), fun _ _ _ _ h => by unfold w_Program_inputs at h; exact h⟩
theorem sc_Program_size_of : FnScope ["self", "name", "array", "size"] ["self", "name"] (defScope (inClass (topS 53) 8)) := ⟨rfl, rfl, rfl, by decide +kernel, rfl, by decide +kernel, by decide +kernel⟩
theorem ok_Program_size_of {f : Addr} {fd : FuncData} (T : Txt K mg CP CL CN te tm) (F : Fun K "size_of" "Program.size_of" (inClass (topS 53) 8) f fd)  : FnOk P w K mg base CX0 1 f fd ["self", "name"] (spW (pr K CP CL CN da ca) 2 w_Program_size_of) := by
  have sc := sc_Program_size_of
  exact fnD 2 F sc rfl fun cdv A outer s H E hr => ⟨_, _, B_Program_size_of,
    (pdb_one (pds_ret (pd_ix rfl (pdf_lc [(Str.ofString "array", 2), (Str.ofString "size", 3)] rfl sc.nd (pdi_tup rfl (pd_fld "Program" rfl T.cp_Program T.na_Program_arrays (pd_v 0))) rfl (fun _ _ _ _ _ => (pdg_t rfl rfl (pdgs_cons (pdg_n 2 sc.nd) (pdgs_cons (pdg_n 3 sc.nd) pdgs_nil)))) (fun _ _ _ _ _ => (pdts_one (pdt_cmp (op_eqD hr.units) op2_eq (pd_v 2) (pd_v 1)))) (fun _ _ _ _ _ => (pd_v 3))).pd pd_int))), fun _ _ _ _ h => by unfold w_Program_size_of at h; exact h⟩
theorem sc_Program___contains__ : FnScope ["self", "thing", "name", "size"] ["self", "thing"] (defScope (inClass (topS 53) 6)) := ⟨rfl, rfl, rfl, by decide +kernel, rfl, by decide +kernel, by decide +kernel⟩
theorem ok_Program___contains__ {f : Addr} {fd : FuncData} (T : Txt K mg CP CL CN te tm) (F : Fun K "__contains__" "Program.__contains__" (inClass (topS 53) 6) f fd)  : FnOk P w K mg base CX0 1 f fd ["self", "thing"] (spW (pr K CP CL CN da ca) 2 w_Program___contains__) := by
  have sc := sc_Program___contains__
  exact fnD 2 F sc rfl fun cdv A outer s H E hr => ⟨_, _, B_Program___contains__,
    (pdb_one (pds_ret (pd_and (pd_callB call_isi opc_isi T.b_isinstance (by decide +kernel) (pda_cons (pd_v 1) (pda_cons (pd_bltn (u := V.ty "str") (.ty "str") T.b_str (by decide +kernel) rfl (by intro _ _; rfl)) pda_nil))) (pd_one (pd_cmp op_inD op2_in (pd_v 1) (pdf_lc [(Str.ofString "name", 2), (Str.ofString "size", 3)] rfl sc.nd (pdi_tup rfl (pd_fld "Program" rfl T.cp_Program T.na_Program_arrays (pd_v 0))) rfl (fun _ _ _ _ _ => (pdg_t rfl rfl (pdgs_cons (pdg_n 2 sc.nd) (pdgs_cons (pdg_n 3 sc.nd) pdgs_nil)))) (fun _ _ _ _ _ => pdts_nil) (fun _ _ _ _ _ => (pd_v 2))).pd))))), fun _ _ _ _ h => by unfold w_Program___contains__ at h; exact h⟩
theorem sc_check_bounds : FnScope ["program", "reads", "place", "name", "access", "own", "at", "array", "where", "i", "read"] ["program"] (defScope (topS 50)) := ⟨rfl, rfl, rfl, by decide +kernel, rfl, by decide +kernel, by decide +kernel⟩
theorem ok_check_bounds {f : Addr} {fd : FuncData} (T : Txt K mg CP CL CN te tm) (F : Fun K "check_bounds" "check_bounds" (topS 50) f fd) (G_all_reads : Gf P w K mg base (pr K CP CL CN da ca) "all_reads" 1 1 w_all_reads) (G_first_out : Gf P w K mg base (pr K CP CL CN da ca) "first_out" 1 2 w_first_out) (G_Program_size_of : Gm P w K mg base (pr K CP CL CN da ca) CP (Str.ofString "size_of") 1 2 w_Program_size_of) : FnOk P w K mg base CX0 2 f fd ["program"] (spW (pr K CP CL CN da ca) 1 w_check_bounds) := by
  have sc := sc_check_bounds
  exact fnD 1 F sc rfl fun cdv A outer s H E hr => ⟨_, _, B_check_bounds,
    (pdb_cons (pds_set 1 sc.nd (pd_g G_all_reads (hr.mono (by decide)) (pda_cons (pd_fld "Program" rfl T.cp_Program T.na_Program_loops (pd_v 0)) pda_nil)))
    (pdb_one (pds_for PassesOwn.never rfl (pdi_tup rfl (pd_fld "Program" rfl T.cp_Program T.na_Program_writers (pd_v 0))) (pdg_t rfl rfl (pdgs_cons (pdg_n 2 sc.nd) (pdgs_cons (pdg_n 3 sc.nd) (pdgs_cons (pdg_n 4 sc.nd) pdgs_nil))))
    (pdb_cons (pds_setLc 5 [(Str.ofString "read", 10)] rfl sc.nd (pdi_tup rfl (pd_v 1)) rfl (fun _ _ _ _ _ => (pdg_n 10 sc.nd)) (fun _ _ _ _ _ => (pdts_one (pdt_cmp (op_eqD hr.units) op2_eq (pd_slice rfl (pd_ix rfl (pd_v 10) pd_int) pdo_none (pdo_some pd_int)) (pd_v 2)))) (fun _ _ _ _ _ => (pd_v 10)))
    (pdb_one (pds_for PassesOwn.never rfl (pdi_list rfl (pd_op op_addD op2_add (pdf_lst (pda_cons (pd_tup (pda_cons (pd_v 2) (pda_cons (pd_v 3) (pda_cons (pd_v 4) pda_nil)))) pda_nil)).pd (pd_v 5))) (pdg_t rfl rfl (pdgs_cons (pdg_n 6 sc.nd) (pdgs_cons (pdg_n 7 sc.nd) (pdgs_cons (pdg_n 8 sc.nd) pdgs_nil))))
    (pdb_cons (pds_set 9 sc.nd (pd_g G_first_out (hr.mono (by decide)) (pda_cons (pd_v 8) (pda_cons (pd_methG "Program" "size_of" T.cp_Program rfl G_Program_size_of (hr.mono (by decide)) (pd_v 0) (pda_cons (pd_v 7) pda_nil)) pda_nil))))
    (pdb_one (pds_if (pdt_cmp op_notN op2_notN (pd_v 9) pd_non) pdb_never pdb_nil))))))))), fun _ _ _ _ h => by unfold w_check_bounds at h; exact h⟩
theorem sc_check_writes : FnScope ["program", "found", "place", "name", "access", "other", "written", "source", "slack", "i", "at", "row"] ["program"] (defScope (topS 51)) := ⟨rfl, rfl, rfl, by decide +kernel, rfl, by decide +kernel, by decide +kernel⟩
theorem ok_check_writes {f : Addr} {fd : FuncData} (T : Txt K mg CP CL CN te tm) (F : Fun K "check_writes" "check_writes" (topS 51) f fd) (G_first_met : Gf P w K mg base (pr K CP CL CN da ca) "first_met" 3 2 w_first_met) : FnOk P w K mg base CX0 4 f fd ["program"] (spW (pr K CP CL CN da ca) 1 w_check_writes) := by
  have sc := sc_check_writes
  exact fnD 1 F sc rfl fun cdv A outer s H E hr => ⟨_, _, B_check_writes,
    (pdb_cons (pds_setO 1 sc.nd (pdf_lst pda_nil))
    (pdb_cons (pds_for PassesOwn.never rfl (pdi_tup rfl (pd_fld "Program" rfl T.cp_Program T.na_Program_writers (pd_v 0))) (pdg_t rfl rfl (pdgs_cons (pdg_n 2 sc.nd) (pdgs_cons (pdg_n 3 sc.nd) (pdgs_cons (pdg_n 4 sc.nd) pdgs_nil))))
    (pdb_one (pds_for PassesOwn.never rfl (pdi_tup rfl (pd_fld "Program" rfl T.cp_Program T.na_Program_writers (pd_v 0))) (pdg_t rfl rfl (pdgs_cons (pdg_n 5 sc.nd) (pdgs_cons (pdg_n 6 sc.nd) (pdgs_cons (pdg_n 7 sc.nd) pdgs_nil))))
    (pdb_cons (pds_if (pdw_or (pdt_cmp (op_neD hr.units) op2_ne (pd_v 6) (pd_v 3)) (pdw_or (pdt_cmp op_gt op2_gt (pd_ix rfl (pd_v 5) pd_int) (pd_ix rfl (pd_v 2) pd_int)) (pdw_or1 (pdt_cmp (op_eqD hr.units) op2_eq (pd_v 5) (pd_v 2))))).pt (pdb_one pds_cont) pdb_nil)
    (pdb_cons (pds_set 8 sc.nd pd_non)
    (pdb_cons (pds_if (pdt_cmp (op_eqD hr.units) op2_eq (pd_ix rfl (pd_v 5) pd_int) (pd_ix rfl (pd_v 2) pd_int)) (pdb_one (pds_set 8 sc.nd (pd_if (pdt_cmp op_ltA op2_ltA (pd_ix rfl (pd_v 5) pd_int) (pd_ix rfl (pd_v 2) pd_int)) pd_int pd_int))) pdb_nil)
    (pdb_cons (pds_set 9 sc.nd (pd_g G_first_met (hr.mono (by decide)) (pda_cons (pd_v 4) (pda_cons (pd_tup (pda_cons (pd_v 7) (pda_cons (pd_v 8) pda_nil))) pda_nil))))
    (pdb_one (pds_if (pdt_cmp op_notN op2_notN (pd_v 9) pd_non) (pdb_one (pds_expr (pd_app 1 rfl (pd_tup (pda_cons (pd_ix rfl (pd_v 2) pd_int) (pda_cons (pd_v 9) (pda_cons (pd_ix rfl (pd_v 2) pd_int) pda_nil))))))) pdb_nil)))))))))
    (pdb_one (pds_if (pdt_cmp op_gt op2_gt (pd_lenO 1 rfl T.b_len) pd_int) pdb_never pdb_nil)))), fun _ _ _ _ h => by unfold w_check_writes at h; exact h⟩
theorem sc_check_uses : FnScope ["program", "found", "name", "place", "access", "i", "at", "row", "number", "sources", "index", "written"] ["program"] (defScope (topS 52)) := ⟨rfl, rfl, rfl, by decide +kernel, rfl, by decide +kernel, by decide +kernel⟩
theorem ok_check_uses {f : Addr} {fd : FuncData} (T : Txt K mg CP CL CN te tm) (F : Fun K "check_uses" "check_uses" (topS 52) f fd) (G_all_reads : Gf P w K mg base (pr K CP CL CN da ca) "all_reads" 1 1 w_all_reads) (G_Program_inputs : Gp P w K mg base (pr K CP CL CN da ca) CP (Str.ofString "inputs") 1 w_Program_inputs) : FnOk P w K mg base CX0 3 f fd ["program"] (spW (pr K CP CL CN da ca) 1 w_check_uses) := by
  have sc := sc_check_uses
  exact fnD 1 F sc rfl fun cdv A outer s H E hr => ⟨_, _, B_check_uses,
    (pdb_cons (pds_setO 1 sc.nd (pdf_lst pda_nil))
    (pdb_cons (pds_for PassesOwn.never rfl (pdi_tup rfl (pd_g G_all_reads (hr.mono (by decide)) (pda_cons (pd_fld "Program" rfl T.cp_Program T.na_Program_loops (pd_v 0)) pda_nil))) (pdg_t rfl rfl (pdgs_cons (pdg_n 3 sc.nd) (pdgs_cons (pdg_n 2 sc.nd) (pdgs_cons (pdg_n 4 sc.nd) pdgs_nil))))
    (pdb_one (pds_if (pdt_cmp op_notInD op2_in (pd_v 2) (pd_propG "Program" T.cp_Program rfl G_Program_inputs (hr.mono (by decide)) (pd_v 0))) (pdb_cons pds_never
    (pdb_one pds_never)) pdb_nil)))
    (pdb_cons (pds_if (pdt_cmp op_gt op2_gt (pd_lenO 1 rfl T.b_len) pd_int) pdb_never pdb_nil)
    (pdb_one (pds_for PassesOwn.never rfl (pdi_tup rfl (pd_fld "Program" rfl T.cp_Program T.na_Program_outputs (pd_v 0))) (pdg_n 2 sc.nd)
    (pdb_one (pds_if (pdt_cmp op_notInD op2_in (pd_v 2) (pd_propG "Program" T.cp_Program rfl G_Program_inputs (hr.mono (by decide)) (pd_v 0))) (pdb_cons pds_never
    (pdb_cons pds_never
    (pdb_one pds_never))) pdb_nil))))))), fun _ _ _ _ h => by unfold w_check_uses at h; exact h⟩
theorem sc_Program___init__ : FnScope ["self", "arrays", "loops", "outputs", "names", "name", "size"] ["self", "arrays", "loops", "outputs"] (defScope (inClass (topS 53) 1)) := ⟨rfl, rfl, rfl, by decide +kernel, rfl, by decide +kernel, by decide +kernel⟩
theorem ok_Program___init__ {f : Addr} {fd : FuncData} {dV : Value} (T : Txt K mg CP CL CN te tm) (F : FunA K "__init__" "Program.__init__" (inClass (topS 53) 1) f fd dV) (G_all_writers : Gf P w K mg base (pr K CP CL CN da ca) "all_writers" 1 1 w_all_writers) (G_are_arrays : Gf P w K mg base (pr K CP CL CN da ca) "are_arrays" 3 2 w_are_arrays) (G_are_loops : Gf P w K mg base (pr K CP CL CN da ca) "are_loops" 4 2 w_are_loops) (G_are_outputs : Gf P w K mg base (pr K CP CL CN da ca) "are_outputs" 2 2 w_are_outputs) (G_check_bounds : Gf P w K mg base (pr K CP CL CN da ca) "check_bounds" 2 1 w_check_bounds) (G_check_uses : Gf P w K mg base (pr K CP CL CN da ca) "check_uses" 3 1 w_check_uses) (G_check_writes : Gf P w K mg base (pr K CP CL CN da ca) "check_writes" 4 1 w_check_writes) : FnOk P w K mg base CX0 5 f fd ["self", "arrays", "loops", "outputs"] (spI (pr K CP CL CN da ca) 3 CP wI_Program___init__) := by
  have sc := sc_Program___init__
  exact fnIA 3 "Program" T.cp_Program F sc rfl fun cdv A outer s H E hr => ⟨_, _, B_Program___init__,
    (pdb_cons (pds_fld 0 "Program" rfl T.cp_Program T.na_Program_arrays (pd_v 1))
    (pdb_cons (pds_fld 0 "Program" rfl T.cp_Program T.na_Program_loops (pd_v 2))
    (pdb_cons (pds_fld 0 "Program" rfl T.cp_Program T.na_Program_outputs (pd_v 3))
    (pdb_cons (pds_if (pdt_not (pdt_val (pd_g G_are_arrays (hr.mono (by decide)) (pda_cons (pd_v 1) (pda_cons (pd_con 0 "Program" (.int 6) rfl T.cp_Program T.con_Program_MOST (by intro _ _; rfl)) pda_nil))))) pdb_never pdb_nil)
    (pdb_cons (pds_setLc 4 [(Str.ofString "name", 5), (Str.ofString "size", 6)] rfl sc.nd (pdi_tup rfl (pd_v 1)) rfl (fun _ _ _ _ _ => (pdg_t rfl rfl (pdgs_cons (pdg_n 5 sc.nd) (pdgs_cons (pdg_n 6 sc.nd) pdgs_nil)))) (fun _ _ _ _ _ => pdts_nil) (fun _ _ _ _ _ => (pd_v 5)))
    (pdb_cons (pds_if (pdt_not (pdt_val (pd_g G_are_loops (hr.mono (by decide)) (pda_cons (pd_v 2) (pda_cons (pd_v 4) pda_nil))))) pdb_never pdb_nil)
    (pdb_cons (pds_if (pdt_not (pdt_val (pd_g G_are_outputs (hr.mono (by decide)) (pda_cons (pd_v 3) (pda_cons (pd_v 4) pda_nil))))) pdb_never pdb_nil)
    (pdb_cons (pds_fld 0 "Program" rfl T.cp_Program T.na_Program_writers (pd_g G_all_writers (hr.mono (by decide)) (pda_cons (pd_v 2) pda_nil)))
    (pdb_cons (pds_expr (pd_g G_check_bounds (hr.mono (by decide)) (pda_cons (pd_v 0) pda_nil)))
    (pdb_cons (pds_expr (pd_g G_check_writes (hr.mono (by decide)) (pda_cons (pd_v 0) pda_nil)))
    (pdb_one (pds_expr (pd_g G_check_uses (hr.mono (by decide)) (pda_cons (pd_v 0) pda_nil)))))))))))))), by decide, fun _ _ _ _ h => by unfold wI_Program___init__ at h; exact h⟩
theorem sc_Program___eq__ : FnScope ["self", "other"] ["self", "other"] (defScope (inClass (topS 53) 7)) := ⟨rfl, rfl, rfl, by decide +kernel, rfl, by decide +kernel, by decide +kernel⟩
theorem ok_Program___eq__ {f : Addr} {fd : FuncData} (T : Txt K mg CP CL CN te tm) (F : Fun K "__eq__" "Program.__eq__" (inClass (topS 53) 7) f fd)  : FnOk P w K mg base CX0 1 f fd ["self", "other"] (spW (pr K CP CL CN da ca) 2 w_Program___eq__) := by
  have sc := sc_Program___eq__
  exact fnD 2 F sc rfl fun cdv A outer s H E hr => ⟨_, _, B_Program___eq__,
    (pdb_cons (pds_if (pdt_not (pdt_val (pd_callB call_isi (opc_isiO T.isi) T.b_isinstance (by decide +kernel) (pda_cons (pd_v 1) (pda_cons (pd_gl (.cls "Program") T.cg_Program (fun _ _ => T.cr_Program)) pda_nil))))) (pdb_one (pds_ret pd_bl)) pdb_nil)
    (pdb_one (pds_ret (pd_and (pd_cmp (op_eqD hr.units) op2_eq (pd_fld "Program" rfl T.cp_Program T.na_Program_arrays (pd_v 0)) (pd_fld "Program" rfl T.cp_Program T.na_Program_arrays (pd_v 1))) (pd_and (pd_cmp (op_eqD hr.units) op2_eq (pd_fld "Program" rfl T.cp_Program T.na_Program_loops (pd_v 0)) (pd_fld "Program" rfl T.cp_Program T.na_Program_loops (pd_v 1))) (pd_one (pd_cmp (op_eqD hr.units) op2_eq (pd_fld "Program" rfl T.cp_Program T.na_Program_outputs (pd_v 0)) (pd_fld "Program" rfl T.cp_Program T.na_Program_outputs (pd_v 1))))))))), fun _ _ _ _ h => by unfold w_Program___eq__ at h; exact h⟩
theorem sc_is_layout : FnScope ["thing"] ["thing"] (defScope (topS 56)) := ⟨rfl, rfl, rfl, by decide +kernel, rfl, by decide +kernel, by decide +kernel⟩
theorem ok_is_layout {f : Addr} {fd : FuncData} (T : Txt K mg CP CL CN te tm) (F : Fun K "is_layout" "is_layout" (topS 56) f fd) (G_is_integer : Gf P w K mg base (pr K CP CL CN da ca) "is_integer" 1 1 w_is_integer) : FnOk P w K mg base CX0 2 f fd ["thing"] (spW (pr K CP CL CN da ca) 1 w_is_layout) := by
  have sc := sc_is_layout
  exact fnD 1 F sc rfl fun cdv A outer s H E hr => ⟨_, _, B_is_layout,
    (pdb_cons (pds_if (pdt_val (pd_callB call_isi opc_isi T.b_isinstance (by decide +kernel) (pda_cons (pd_v 0) (pda_cons (pd_bltn (u := V.ty "str") (.ty "str") T.b_str (by decide +kernel) rfl (by intro _ _; rfl)) pda_nil)))) (pdb_one (pds_ret (pd_cmp op_inD op2_in (pd_v 0) (pd_tup (pda_cons pd_str (pda_cons pd_str pda_nil)))))) pdb_nil)
    (pdb_cons (pds_if (pdw_or (pdt_not (pdt_val (pd_callB call_isi opc_isi T.b_isinstance (by decide +kernel) (pda_cons (pd_v 0) (pda_cons (pd_bltn (u := V.ty "tuple") (.ty "tuple") T.b_tuple (by decide +kernel) rfl (by intro _ _; rfl)) pda_nil))))) (pdw_or (pdt_cmp (op_neD hr.units) op2_ne (pd_callB cr_len opc_len T.b_len PySem.boot_len (pda_cons (pd_v 0) pda_nil)) pd_int) (pdw_or1 (pdt_not (pdt_val (pd_callB call_isi opc_isi T.b_isinstance (by decide +kernel) (pda_cons (pd_ix rfl (pd_v 0) pd_int) (pda_cons (pd_bltn (u := V.ty "str") (.ty "str") T.b_str (by decide +kernel) rfl (by intro _ _; rfl)) pda_nil)))))))).pt (pdb_one (pds_ret pd_bl)) pdb_nil)
    (pdb_one (pds_ret (pd_and (pd_cmp (op_eqD hr.units) op2_eq (pd_ix rfl (pd_v 0) pd_int) pd_str) (pd_and (pd_g G_is_integer (hr.mono (by decide)) (pda_cons (pd_ix rfl (pd_v 0) pd_int) pda_nil)) (pd_one (pd_chain op_le op_le op2_le op2_le pd_int (pd_ix rfl (pd_v 0) pd_int) (pd_gl (.int 8) T.g_GREATEST_RING))))))))), fun _ _ _ _ h => by unfold w_is_layout at h; exact h⟩
theorem sc_low_high : FnScope ["layout", "size"] ["layout", "size"] (defScope (topS 57)) := ⟨rfl, rfl, rfl, by decide +kernel, rfl, by decide +kernel, by decide +kernel⟩
theorem ok_low_high {f : Addr} {fd : FuncData} (T : Txt K mg CP CL CN te tm) (F : Fun K "low_high" "low_high" (topS 57) f fd)  : FnOk P w K mg base CX0 1 f fd ["layout", "size"] (spW (pr K CP CL CN da ca) 2 w_low_high) := by
  have sc := sc_low_high
  exact fnD 2 F sc rfl fun cdv A outer s H E hr => ⟨_, _, B_low_high,
    (pdb_cons (pds_if (pdt_cmp (op_eqD hr.units) op2_eq (pd_v 0) pd_str) (pdb_one (pds_ret (pd_tup (pda_cons pd_int (pda_cons (pd_op op_sub op2_sub (pd_v 1) pd_int) pda_nil))))) pdb_nil)
    (pdb_cons (pds_if (pdt_cmp (op_eqD hr.units) op2_eq (pd_v 0) pd_str) (pdb_one (pds_ret (pd_tup (pda_cons (pd_op op_sub op2_sub pd_int (pd_v 1)) (pda_cons pd_int pda_nil))))) pdb_nil)
    (pdb_one (pds_ret (pd_tup (pda_cons pd_int (pda_cons (pd_op op_sub op2_sub (pd_callB (call_min2 rfl) opc_min2 T.b_min (by decide +kernel) (pda_cons (pd_ix rfl (pd_v 0) pd_int) (pda_cons (pd_v 1) pda_nil))) pd_int) pda_nil))))))), fun _ _ _ _ h => by unfold w_low_high at h; exact h⟩
theorem sc_are_places : FnScope ["program", "places", "place", "name", "first", "layout", "size"] ["program", "places"] (defScope (topS 59)) := ⟨rfl, rfl, rfl, by decide +kernel, rfl, by decide +kernel, by decide +kernel⟩
theorem ok_are_places {f : Addr} {fd : FuncData} (T : Txt K mg CP CL CN te tm) (F : Fun K "are_places" "are_places" (topS 59) f fd) (G_is_integer : Gf P w K mg base (pr K CP CL CN da ca) "is_integer" 1 1 w_is_integer) (G_is_layout : Gf P w K mg base (pr K CP CL CN da ca) "is_layout" 2 1 w_is_layout) (G_low_high : Gf P w K mg base (pr K CP CL CN da ca) "low_high" 1 2 w_low_high) (G_Program___contains__ : Gin P w K mg base (pr K CP CL CN da ca) CP 1 w_Program___contains__) (G_Program_size_of : Gm P w K mg base (pr K CP CL CN da ca) CP (Str.ofString "size_of") 1 2 w_Program_size_of) : FnOk P w K mg base CX0 3 f fd ["program", "places"] (spW (pr K CP CL CN da ca) 2 w_are_places) := by
  have sc := sc_are_places
  exact fnD 2 F sc rfl fun cdv A outer s H E hr => ⟨_, _, B_are_places,
    (pdb_cons (pds_for PassesOwn.never rfl (pdi_tup rfl (pd_v 1)) (pdg_n 2 sc.nd)
    (pdb_cons (pds_if (pdw_or (pdt_not (pdt_val (pd_callB call_isi opc_isi T.b_isinstance (by decide +kernel) (pda_cons (pd_v 2) (pda_cons (pd_bltn (u := V.ty "tuple") (.ty "tuple") T.b_tuple (by decide +kernel) rfl (by intro _ _; rfl)) pda_nil))))) (pdw_or (pdt_cmp (op_neD hr.units) op2_ne (pd_callB cr_len opc_len T.b_len PySem.boot_len (pda_cons (pd_v 2) pda_nil)) pd_int) (pdw_or1 (pdt_notInO "Program" T.cp_Program G_Program___contains__ (hr.mono (by decide)) (pd_ix rfl (pd_v 2) pd_int) (pd_v 0))))).pt (pdb_one (pds_ret pd_bl)) pdb_nil)
    (pdb_cons (pds_asg (pd_v 2) (pdg_t rfl rfl (pdgs_cons (pdg_n 3 sc.nd) (pdgs_cons (pdg_n 4 sc.nd) (pdgs_cons (pdg_n 5 sc.nd) pdgs_nil)))))
    (pdb_cons (pds_if (pdw_or (pdt_not (pdt_val (pd_g G_is_integer (hr.mono (by decide)) (pda_cons (pd_v 4) pda_nil)))) (pdw_or1 (pdt_not (pdt_val (pd_g G_is_layout (hr.mono (by decide)) (pda_cons (pd_v 5) pda_nil)))))).pt (pdb_one (pds_ret pd_bl)) pdb_nil)
    (pdb_one (pds_if (pdt_cmp op_ltA op2_ltA (pd_op op_addD op2_add (pd_v 4) (pd_ix rfl (pd_g G_low_high (hr.mono (by decide)) (pda_cons (pd_v 5) (pda_cons (pd_methG "Program" "size_of" T.cp_Program rfl G_Program_size_of (hr.mono (by decide)) (pd_v 0) (pda_cons (pd_v 3) pda_nil)) pda_nil))) pd_int)) pd_int) (pdb_one (pds_ret pd_bl)) pdb_nil))))))
    (pdb_one (pds_ret (pd_cmp (op_eqD hr.units) op2_eq (pd_sortS rfl T.b_sorted (pda_cons (pdf_lc [(Str.ofString "place", 2)] rfl sc.nd (pdi_tup rfl (pd_v 1)) rfl (fun _ _ _ _ _ => (pdg_n 2 sc.nd)) (fun _ _ _ _ _ => pdts_nil) (fun _ _ _ _ _ => (pd_ix rfl (pd_v 2) pd_int))).pd pda_nil)) (pdf_lc [(Str.ofString "name", 3), (Str.ofString "size", 6)] rfl sc.nd (pdi_tup rfl (pd_fld "Program" rfl T.cp_Program T.na_Program_arrays (pd_v 0))) rfl (fun _ _ _ _ _ => (pdg_t rfl rfl (pdgs_cons (pdg_n 3 sc.nd) (pdgs_cons (pdg_n 6 sc.nd) pdgs_nil)))) (fun _ _ _ _ _ => pdts_nil) (fun _ _ _ _ _ => (pd_v 3))).pd)))), fun _ _ _ _ h => by unfold w_are_places at h; exact h⟩
theorem sc_Placement___init__ : FnScope ["self", "program", "places", "name", "first", "layout"] ["self", "program", "places"] (defScope (inClass (topS 63) 0)) := ⟨rfl, rfl, rfl, by decide +kernel, rfl, by decide +kernel, by decide +kernel⟩
theorem ok_Placement___init__ {f : Addr} {fd : FuncData} (T : Txt K mg CP CL CN te tm) (F : Fun K "__init__" "Placement.__init__" (inClass (topS 63) 0) f fd) (G_are_places : Gf P w K mg base (pr K CP CL CN da ca) "are_places" 3 2 w_are_places) : FnR P w K mg base (L2.CX P w) 4 f (spS 2 (spIX (pr K CP CL CN da ca) 2 CL wI_Placement___init__)) := by
  have sc := sc_Placement___init__
  exact fnISX (ps := ["self", "program"]) 1 "Placement" T.cp_Placement F sc rfl (fun kV doc pm an cdv ct => bind_star2 (B := fun us => bindArgs (PySem.W.fnOf _ _ _ _ _ .none kV doc pm an cdv ct) ⟨us, []⟩) (fun _ _ => rfl) (fun _ _ _ _ => rfl)) fun cdv A outer s H E hr => ⟨_, _, B_Placement___init__,
    (pdbx_cons (pdsx_if (pdt_not (pdt_val (pd_g G_are_places (hr.mono (by decide)) (pda_cons (pd_v 1) (pda_cons (pd_v 2) pda_nil))))) (pdbx_one (pdsx_raise T.x_NoPlacement (takes_of rfl rfl rfl rfl))) pdbx_nil)
    (pdbx_cons (PDS.x (pds_fld 0 "Placement" rfl T.cp_Placement T.na_Placement_program (pd_v 1)))
    (pdbx_cons (PDS.x (pds_fld 0 "Placement" rfl T.cp_Placement T.na_Placement_places (pd_callT call_tuple_of opc_tuple T.b_tuple (by decide +kernel) (pda_cons (pd_sortT rfl T.b_sorted (pda_cons (pd_v 2) pda_nil)) pda_nil))))
    (pdbx_one (PDS.x (pds_fld 0 "Placement" rfl T.cp_Placement T.na_Placement_spots (pdf_dc [(Str.ofString "name", 3), (Str.ofString "first", 4), (Str.ofString "layout", 5)] rfl sc.nd (pdi_tup rfl (pd_v 2)) rfl (fun _ _ _ _ _ => (pdg_t rfl rfl (pdgs_cons (pdg_n 3 sc.nd) (pdgs_cons (pdg_n 4 sc.nd) (pdgs_cons (pdg_n 5 sc.nd) pdgs_nil))))) (fun _ _ _ _ _ => pdts_nil) (fun _ _ _ _ _ => (pd_v 3)) (fun _ _ _ _ _ => (pd_tup (pda_cons (pd_v 4) (pda_cons (pd_v 5) pda_nil))))).pd)))))), by decide, fun _ _ _ _ _ h => by unfold wI_Placement___init__ at h; exact h⟩
theorem sc_Placement_apart : FnScope ["cls", "program", "places", "first", "name", "size"] ["cls", "program"] (defScope (inClass (topS 63) 1)) := ⟨rfl, rfl, rfl, by decide +kernel, rfl, by decide +kernel, by decide +kernel⟩
theorem ok_Placement_apart {f : Addr} {fd : FuncData} (T : Txt K mg CP CL CN te tm) (F : Fun K "apart" "Placement.apart" (inClass (topS 63) 1) f fd) (G_Placement : GisX P w K mg base (pr K CP CL CN da ca) CL "Placement" 4 1 wI_Placement___init__) : FnOk P w K mg base CX0 6 f fd ["cls", "program"] (spW (pr K CP CL CN da ca) 2 w_Placement_apart) := by
  have sc := sc_Placement_apart
  exact fnD 2 F sc rfl fun cdv A outer s H E hr => ⟨_, _, B_Placement_apart,
    (pdb_cons (pds_parFV 2 3 rfl sc.nd (pdf_lst pda_nil) pd_int)
    (pdb_cons (pds_for PassesOwn.never rfl (pdi_tup rfl (pd_fld "Program" rfl T.cp_Program T.na_Program_arrays (pd_v 1))) (pdg_t rfl rfl (pdgs_cons (pdg_n 4 sc.nd) (pdgs_cons (pdg_n 5 sc.nd) pdgs_nil)))
    (pdb_cons (pds_expr (pd_app 2 rfl (pd_tup (pda_cons (pd_v 4) (pda_cons (pd_v 3) (pda_cons pd_str pda_nil))))))
    (pdb_one (pds_aug 3 sc.nd (pd_v 5)))))
    (pdb_one (pds_ret (PDX.pd (pdx_mkVSS 0 "Placement" rfl G_Placement takes0 (hr.mono (by decide)) (pda_cons (pd_v 1) (pda_star rfl (pd_v 2) pda_nil)))))))), fun _ _ _ _ h => by unfold w_Placement_apart at h; exact h⟩
theorem sc_Placement_size : FnScope ["self", "ends", "name", "first", "layout"] ["self"] (defScope (inClass (topS 63) 3)) := ⟨rfl, rfl, rfl, by decide +kernel, rfl, by decide +kernel, by decide +kernel⟩
theorem ok_Placement_size {f : Addr} {fd : FuncData} (T : Txt K mg CP CL CN te tm) (F : Fun K "size" "Placement.size" (inClass (topS 63) 3) f fd) (G_low_high : Gf P w K mg base (pr K CP CL CN da ca) "low_high" 1 2 w_low_high) (G_Program_size_of : Gm P w K mg base (pr K CP CL CN da ca) CP (Str.ofString "size_of") 1 2 w_Program_size_of) : FnOk P w K mg base CX0 2 f fd ["self"] (spW (pr K CP CL CN da ca) 1 w_Placement_size) := by
  have sc := sc_Placement_size
  exact fnD 1 F sc rfl fun cdv A outer s H E hr => ⟨_, _, B_Placement_size,
    (pdb_cons (pds_setLc 1 [(Str.ofString "name", 2), (Str.ofString "first", 3), (Str.ofString "layout", 4)] rfl sc.nd (pdi_tup rfl (pd_fld "Placement" rfl T.cp_Placement T.na_Placement_places (pd_v 0))) rfl (fun _ _ _ _ _ => (pdg_t rfl rfl (pdgs_cons (pdg_n 2 sc.nd) (pdgs_cons (pdg_n 3 sc.nd) (pdgs_cons (pdg_n 4 sc.nd) pdgs_nil))))) (fun _ _ _ _ _ => pdts_nil) (fun _ _ _ _ _ => (pd_op op_addD op2_add (pd_v 3) (pd_ix rfl (pd_g G_low_high (hr.mono (by decide)) (pda_cons (pd_v 4) (pda_cons (pd_methG "Program" "size_of" T.cp_Program rfl G_Program_size_of (hr.mono (by decide)) (pd_fld "Placement" rfl T.cp_Placement T.na_Placement_program (pd_v 0)) (pda_cons (pd_v 2) pda_nil)) pda_nil))) pd_int))))
    (pdb_one (pds_ret (pd_op op_addD op2_add (pd_maxL rfl rfl T.b_max (pda_cons (pd_v 1) pda_nil)) pd_int)))), fun _ _ _ _ h => by unfold w_Placement_size at h; exact h⟩
theorem sc_Placement___eq__ : FnScope ["self", "other"] ["self", "other"] (defScope (inClass (topS 63) 5)) := ⟨rfl, rfl, rfl, by decide +kernel, rfl, by decide +kernel, by decide +kernel⟩
theorem ok_Placement___eq__ {f : Addr} {fd : FuncData} (T : Txt K mg CP CL CN te tm) (F : Fun K "__eq__" "Placement.__eq__" (inClass (topS 63) 5) f fd) (G_Program___eq__ : Geq P w K mg base (pr K CP CL CN da ca) CP 1 w_Program___eq__) : FnOk P w K mg base CX0 3 f fd ["self", "other"] (spW (pr K CP CL CN da ca) 2 w_Placement___eq__) := by
  have sc := sc_Placement___eq__
  exact fnD 2 F sc rfl fun cdv A outer s H E hr => ⟨_, _, B_Placement___eq__,
    (pdb_one (pds_ret (pd_and (pd_callB call_isi (opc_isiO T.isi) T.b_isinstance (by decide +kernel) (pda_cons (pd_v 1) (pda_cons (pd_gl (.cls "Placement") T.cg_Placement (fun _ _ => T.cr_Placement)) pda_nil))) (pd_and (pd_eqO "Program" ["Program", "Placement"] T.cp_Program T.os_Program rfl G_Program___eq__ (hr.mono (by decide)) (pd_fld "Placement" rfl T.cp_Placement T.na_Placement_program (pd_v 0)) (pd_fld "Placement" rfl T.cp_Placement T.na_Placement_program (pd_v 1))) (pd_one (pd_cmp (op_eqD hr.units) op2_eq (pd_fld "Placement" rfl T.cp_Placement T.na_Placement_places (pd_v 0)) (pd_fld "Placement" rfl T.cp_Placement T.na_Placement_places (pd_v 1)))))))), fun _ _ _ _ h => by unfold w_Placement___eq__ at h; exact h⟩
theorem sc_Placement_moved : FnScope ["self", "cells", "firsts", "places", "name", "first", "layout"] ["self", "cells"] (defScope (inClass (topS 63) 9)) := ⟨rfl, rfl, rfl, by decide +kernel, rfl, by decide +kernel, by decide +kernel⟩
theorem ok_Placement_moved {f : Addr} {fd : FuncData} (T : Txt K mg CP CL CN te tm) (F : Fun K "moved" "Placement.moved" (inClass (topS 63) 9) f fd) (G_Placement : GisX P w K mg base (pr K CP CL CN da ca) CL "Placement" 4 1 wI_Placement___init__) : FnR P w K mg base (L2.CX P w) 6 f (spS 1 (spX (pr K CP CL CN da ca) 2 w_Placement_moved)) := by
  have sc := sc_Placement_moved
  exact fnSX (ps := ["self"]) F sc (fun kV doc pm an cdv ct => bind_star1 (B := fun us => bindArgs (PySem.W.fnOf _ _ _ _ _ .none kV doc pm an cdv ct) ⟨us, []⟩) (fun _ => rfl) (fun _ _ _ => rfl)) fun cdv A outer s H E hr => ⟨_, _, B_Placement_moved,
    (pdbx_cons (PDS.x (pds_set 2 sc.nd (pdf_dc [(Str.ofString "name", 4), (Str.ofString "first", 5)] rfl sc.nd (pdi_tup rfl (pd_v 1)) rfl (fun _ _ _ _ _ => (pdg_t rfl rfl (pdgs_cons (pdg_n 4 sc.nd) (pdgs_cons (pdg_n 5 sc.nd) pdgs_nil)))) (fun _ _ _ _ _ => pdts_nil) (fun _ _ _ _ _ => (pd_v 4)) (fun _ _ _ _ _ => (pd_v 5))).pd))
    (pdbx_cons (PDS.x (pds_setLc 3 [(Str.ofString "name", 4), (Str.ofString "first", 5), (Str.ofString "layout", 6)] rfl sc.nd (pdi_tup rfl (pd_fld "Placement" rfl T.cp_Placement T.na_Placement_places (pd_v 0))) rfl (fun _ _ _ _ _ => (pdg_t rfl rfl (pdgs_cons (pdg_n 4 sc.nd) (pdgs_cons (pdg_n 5 sc.nd) (pdgs_cons (pdg_n 6 sc.nd) pdgs_nil))))) (fun _ _ _ _ _ => pdts_nil) (fun _ _ _ _ _ => (pd_tup (pda_cons (pd_v 4) (pda_cons (pd_dget2 (hu_of hr) (pd_v 2) (pd_v 4) (pd_v 5)) (pda_cons (pd_v 6) pda_nil)))))))
    (pdbx_one (pdsx_ret (pdx_mkSS G_Placement (takes_of rfl rfl rfl rfl) (hr.mono (by decide)) (pda_cons (pd_fld "Placement" rfl T.cp_Placement T.na_Placement_program (pd_v 0)) (pda_star rfl (pd_v 3) pda_nil))))))), fun _ _ _ _ _ h => by unfold w_Placement_moved at h; exact h⟩
theorem sc__law_pick : FnScope ["_law_deck_here", "_law_some"] ["_law_deck_here", "_law_some"] (defScope (topS 67)) := ⟨rfl, rfl, rfl, by decide +kernel, rfl, by decide +kernel, by decide +kernel⟩
theorem ok__law_pick {f : Addr} {fd : FuncData} (T : Txt K mg CP CL CN te tm) (F : Fun K "_law_pick" "_law_pick" (topS 67) f fd) (G__law_draw : Gf P w K mg base (pr K CP CL CN da ca) "_law_draw" 1 2 w__law_draw) : FnOk P w K mg base CX0 2 f fd ["_law_deck_here", "_law_some"] (spW (pr K CP CL CN da ca) 2 w__law_pick) := by
  have sc := sc__law_pick
  exact fnD 2 F sc rfl fun cdv A outer s H E hr => ⟨_, _, B__law_pick,
    (pdb_one (pds_ret (pd_ix rfl (pd_v 1) (pd_g G__law_draw (hr.mono (by decide)) (pda_cons (pd_v 0) (pda_cons (pd_callB cr_len opc_len T.b_len PySem.boot_len (pda_cons (pd_v 1) pda_nil)) pda_nil)))))), fun _ _ _ _ h => by unfold w__law_pick at h; exact h⟩
theorem sc__law_names : FnScope ["_law_deck_here", "_law_words", "_law_letters", "_law_head", "_law_tails", "_law_first", "_law_step", "_law_k", "_law_j"] ["_law_deck_here"] (defScope (topS 68)) := ⟨rfl, rfl, rfl, by decide +kernel, rfl, by decide +kernel, by decide +kernel⟩
theorem ok__law_names {f : Addr} {fd : FuncData} (T : Txt K mg CP CL CN te tm) (F : Fun K "_law_names" "_law_names" (topS 68) f fd) (G__law_draw : Gf P w K mg base (pr K CP CL CN da ca) "_law_draw" 1 2 w__law_draw) (G__law_pick : Gf P w K mg base (pr K CP CL CN da ca) "_law_pick" 2 2 w__law_pick) : FnOk P w K mg base CX0 3 f fd ["_law_deck_here"] (spW (pr K CP CL CN da ca) 1 w__law_names) := by
  have sc := sc__law_names
  exact fnD 1 F sc rfl fun cdv A outer s H E hr => ⟨_, _, B__law_names,
    (pdb_cons (pds_set 1 sc.nd (pd_split pd_str pd_str))
    (pdb_cons (pds_if (pdt_cmp (op_eqD hr.units) op2_eq (pd_g G__law_draw (hr.mono (by decide)) (pda_cons (pd_v 0) (pda_cons pd_int pda_nil))) pd_int) (pdb_cons (pds_asg (pd_tup (pda_cons (pd_g G__law_draw (hr.mono (by decide)) (pda_cons (pd_v 0) (pda_cons pd_int pda_nil))) (pda_cons (pd_op op_addD op2_add pd_int (pd_g G__law_draw (hr.mono (by decide)) (pda_cons (pd_v 0) (pda_cons pd_int pda_nil)))) pda_nil))) (pdg_t rfl rfl (pdgs_cons (pdg_n 5 sc.nd) (pdgs_cons (pdg_n 6 sc.nd) pdgs_nil))))
    (pdb_one (pds_ret (pdf_lc [(Str.ofString "_law_k", 7)] rfl sc.nd (pdi_range1 T.b_range (pda_cons pd_int pda_nil)) rfl (fun _ _ _ _ _ => (pdg_n 7 sc.nd)) (fun _ _ _ _ _ => pdts_nil) (fun _ _ _ _ _ => (pd_ix rfl (pd_v 1) (pd_op op_modD op2_md (pd_callT call_int1 opc_int1 T.b_int (by decide +kernel) (pda_cons (pd_op op_addD op2_add (pd_v 5) (pd_op op_mul op2_mul (pd_v 6) (pd_v 7))) pda_nil)) pd_int)))).pd))) pdb_nil)
    (pdb_cons (pds_set 2 sc.nd pd_str)
    (pdb_cons (pds_asg (pd_tup (pda_cons (pd_g G__law_draw (hr.mono (by decide)) (pda_cons (pd_v 0) (pda_cons pd_int pda_nil))) (pda_cons (pd_g G__law_pick (hr.mono (by decide)) (pda_cons (pd_v 0) (pda_cons (pdf_lst (pda_cons pd_int (pda_cons pd_int (pda_cons pd_int (pda_cons pd_int (pda_cons pd_int (pda_cons pd_int (pda_cons pd_int (pda_cons pd_int pda_nil))))))))).pd pda_nil))) pda_nil))) (pdg_t rfl rfl (pdgs_cons (pdg_n 5 sc.nd) (pdgs_cons (pdg_n 6 sc.nd) pdgs_nil))))
    (pdb_cons (pds_set 3 sc.nd (pd_join rfl pd_str (pdf_lc [(Str.ofString "_law_k", 7)] rfl sc.nd (pdi_range1 T.b_range (pda_cons (pd_g G__law_draw (hr.mono (by decide)) (pda_cons (pd_v 0) (pda_cons pd_int pda_nil))) pda_nil)) rfl (fun _ _ _ _ _ => (pdg_n 7 sc.nd)) (fun _ _ _ _ _ => pdts_nil) (fun _ _ _ _ _ => (pd_g G__law_pick (hr.mono (by decide)) (pda_cons (pd_v 0) (pda_cons (pd_v 2) pda_nil))))).pd))
    (pdb_cons (pds_set 4 sc.nd (pdf_lc [(Str.ofString "_law_k", 7)] rfl sc.nd (pdi_range1 T.b_range (pda_cons pd_int pda_nil)) rfl (fun _ _ _ _ _ => (pdg_n 7 sc.nd)) (fun _ _ _ _ _ => pdts_nil) (fun _ _ _ _ _ => (pd_join rfl pd_str (pdf_lc [(Str.ofString "_law_j", 8)] rfl sc.nd (pdi_range1 T.b_range (pda_cons (pd_g G__law_draw (hr.mono (by decide)) (pda_cons (pd_v 0) (pda_cons pd_int pda_nil))) pda_nil)) rfl (fun _ _ _ _ _ => (pdg_n 8 sc.nd)) (fun _ _ _ _ _ => pdts_nil) (fun _ _ _ _ _ => (pd_g G__law_pick (hr.mono (by decide)) (pda_cons (pd_v 0) (pda_cons (pd_v 2) pda_nil))))).pd))).pd)
    (pdb_one (pds_ret (pdf_lc [(Str.ofString "_law_k", 7)] rfl sc.nd (pdi_range1 T.b_range (pda_cons pd_int pda_nil)) rfl (fun _ _ _ _ _ => (pdg_n 7 sc.nd)) (fun _ _ _ _ _ => pdts_nil) (fun _ _ _ _ _ => (pd_op op_addD op2_add (pd_op op_addD op2_add (pd_v 3) (pd_ix rfl (pd_v 2) (pd_op op_modD op2_md (pd_callT call_int1 opc_int1 T.b_int (by decide +kernel) (pda_cons (pd_op op_addD op2_add (pd_v 5) (pd_op op_mul op2_mul (pd_v 6) (pd_v 7))) pda_nil)) pd_int))) (pd_ix rfl (pd_v 4) (pd_v 7))))).pd)))))))), fun _ _ _ _ h => by unfold w__law_names at h; exact h⟩
theorem sc__law_size : FnScope ["_law_deck_here"] ["_law_deck_here"] (defScope (topS 69)) := ⟨rfl, rfl, rfl, by decide +kernel, rfl, by decide +kernel, by decide +kernel⟩
theorem ok__law_size {f : Addr} {fd : FuncData} (T : Txt K mg CP CL CN te tm) (F : Fun K "_law_size" "_law_size" (topS 69) f fd) (G__law_draw : Gf P w K mg base (pr K CP CL CN da ca) "_law_draw" 1 2 w__law_draw) (G__law_pick : Gf P w K mg base (pr K CP CL CN da ca) "_law_pick" 2 2 w__law_pick) : FnOk P w K mg base CX0 3 f fd ["_law_deck_here"] (spW (pr K CP CL CN da ca) 1 w__law_size) := by
  have sc := sc__law_size
  exact fnD 1 F sc rfl fun cdv A outer s H E hr => ⟨_, _, B__law_size,
    (pdb_one (pds_ret (pd_g G__law_pick (hr.mono (by decide)) (pda_cons (pd_v 0) (pda_cons (pdf_lst (pda_cons pd_int (pda_cons pd_int (pda_cons pd_int (pda_cons pd_int (pda_cons pd_int (pda_cons pd_int (pda_cons (pd_op op_addD op2_add pd_int (pd_g G__law_draw (hr.mono (by decide)) (pda_cons (pd_v 0) (pda_cons pd_int pda_nil)))) (pda_cons (pd_op op_pow op2_pow pd_int pd_int) (pda_cons (pd_op op_sub op2_sub (pd_op op_pow op2_pow pd_int pd_int) (pd_g G__law_draw (hr.mono (by decide)) (pda_cons (pd_v 0) (pda_cons pd_int pda_nil)))) pda_nil)))))))))).pd pda_nil))))), fun _ _ _ _ h => by unfold w__law_size at h; exact h⟩
theorem sc__law_program : FnScope ["_law_deck_here", "_law_names_here", "_law_arrays", "_law_name", "_law_size_here"] ["_law_deck_here"] (defScope (topS 70)) := ⟨rfl, rfl, rfl, by decide +kernel, rfl, by decide +kernel, by decide +kernel⟩
theorem ok__law_program {f : Addr} {fd : FuncData} (T : Txt K mg CP CL CN te tm) (F : Fun K "_law_program" "_law_program" (topS 70) f fd) (G__law_draw : Gf P w K mg base (pr K CP CL CN da ca) "_law_draw" 1 2 w__law_draw) (G__law_names : Gf P w K mg base (pr K CP CL CN da ca) "_law_names" 3 1 w__law_names) (G__law_pick : Gf P w K mg base (pr K CP CL CN da ca) "_law_pick" 2 2 w__law_pick) (G__law_size : Gf P w K mg base (pr K CP CL CN da ca) "_law_size" 3 1 w__law_size) (G_Program : Gi P w K mg base (pr K CP CL CN da ca) CP "Program" 5 3 wI_Program___init__ [.ref te]) : FnOk P w K mg base CX0 7 f fd ["_law_deck_here"] (spW (pr K CP CL CN da ca) 1 w__law_program) := by
  have sc := sc__law_program
  exact fnD 1 F sc rfl fun cdv A outer s H E hr => ⟨_, _, B__law_program,
    (pdb_cons (pds_set 1 sc.nd (pd_sortS rfl T.b_sorted (pda_cons (pd_slice rfl (pd_g G__law_names (hr.mono (by decide)) (pda_cons (pd_v 0) pda_nil)) pdo_none (pdo_some (pd_op op_addD op2_add pd_int (pd_g G__law_draw (hr.mono (by decide)) (pda_cons (pd_v 0) (pda_cons pd_int pda_nil)))))) pda_nil)))
    (pdb_cons (pds_set 2 sc.nd (pd_callT call_tuple_of opc_tuple T.b_tuple (by decide +kernel) (pda_cons (pdf_lc [(Str.ofString "_law_name", 3)] rfl sc.nd (pdi_list rfl (pd_v 1)) rfl (fun _ _ _ _ _ => (pdg_n 3 sc.nd)) (fun _ _ _ _ _ => pdts_nil) (fun _ _ _ _ _ => (pd_tup (pda_cons (pd_v 3) (pda_cons (pd_g G__law_size (hr.mono (by decide)) (pda_cons (pd_v 0) pda_nil)) pda_nil))))).pd pda_nil)))
    (pdb_cons (pds_asg (pd_g G__law_pick (hr.mono (by decide)) (pda_cons (pd_v 0) (pda_cons (pd_v 2) pda_nil))) (pdg_t rfl rfl (pdgs_cons (pdg_n 3 sc.nd) (pdgs_cons (pdg_n 4 sc.nd) pdgs_nil))))
    (pdb_one (pds_ret (pd_mk [.tup []] G_Program (hr.mono (by decide)) T.dd_Program_2 (pda_cons (pd_v 2) (pda_cons (pd_tup (pda_cons (pd_tup (pda_cons pd_int (pda_cons (pd_tup (pda_cons (pd_tup (pda_cons (pd_v 3) (pda_cons pd_int (pda_cons (pd_g G__law_pick (hr.mono (by decide)) (pda_cons (pd_v 0) (pda_cons (pdf_lst (pda_cons pd_int (pda_cons (pd_op op_sub op2_sub (pd_v 4) pd_int) pda_nil))).pd pda_nil))) (pda_cons (pd_tup pda_nil) pda_nil))))) pda_nil)) pda_nil))) pda_nil)) pda_nil)))))))), fun _ _ _ _ h => by unfold w__law_program at h; exact h⟩
theorem sc__law_great : FnScope ["_law_deck_here", "_law_some"] ["_law_deck_here"] (defScope (topS 71)) := ⟨rfl, rfl, rfl, by decide +kernel, rfl, by decide +kernel, by decide +kernel⟩
theorem ok__law_great {f : Addr} {fd : FuncData} (T : Txt K mg CP CL CN te tm) (F : Fun K "_law_great" "_law_great" (topS 71) f fd) (G__law_draw : Gf P w K mg base (pr K CP CL CN da ca) "_law_draw" 1 2 w__law_draw) (G__law_pick : Gf P w K mg base (pr K CP CL CN da ca) "_law_pick" 2 2 w__law_pick) : FnOk P w K mg base CX0 3 f fd ["_law_deck_here"] (spW (pr K CP CL CN da ca) 1 w__law_great) := by
  have sc := sc__law_great
  exact fnD 1 F sc rfl fun cdv A outer s H E hr => ⟨_, _, B__law_great,
    (pdb_cons (pds_set 1 sc.nd (pdf_lst (pda_cons pd_int (pda_cons pd_int (pda_cons pd_int (pda_cons (pd_g G__law_draw (hr.mono (by decide)) (pda_cons (pd_v 0) (pda_cons pd_int pda_nil))) (pda_cons (pd_g G__law_draw (hr.mono (by decide)) (pda_cons (pd_v 0) (pda_cons pd_int pda_nil))) (pda_cons (pd_op op_addD op2_add (pd_op op_pow op2_pow pd_int pd_int) (pd_g G__law_draw (hr.mono (by decide)) (pda_cons (pd_v 0) (pda_cons pd_int pda_nil)))) pda_nil))))))).pd)
    (pdb_one (pds_ret (pd_g G__law_pick (hr.mono (by decide)) (pda_cons (pd_v 0) (pda_cons (pd_op op_addD op2_add (pd_v 1) (pdf_lst (pda_cons (pd_op op_sub op2_sub (pd_op op_pow op2_pow pd_int pd_int) (pd_op op_pow op2_pow pd_int pd_int)) (pda_cons (pd_op op_addD op2_add (pd_op op_pow op2_pow pd_int pd_int) (pd_op op_mul op2_mul (pd_g G__law_draw (hr.mono (by decide)) (pda_cons (pd_v 0) (pda_cons pd_int pda_nil))) (pd_op op_pow op2_pow pd_int pd_int))) pda_nil))).pd) pda_nil)))))), fun _ _ _ _ h => by unfold w__law_great at h; exact h⟩
theorem sc__law_places : FnScope ["_law_deck_here", "_law_arrays", "_law_rows", "_law_name", "_law_size_here", "_law_layout"] ["_law_deck_here", "_law_arrays"] (defScope (topS 72)) := ⟨rfl, rfl, rfl, by decide +kernel, rfl, by decide +kernel, by decide +kernel⟩
theorem ok__law_places {f : Addr} {fd : FuncData} (T : Txt K mg CP CL CN te tm) (F : Fun K "_law_places" "_law_places" (topS 72) f fd) (G__law_draw : Gf P w K mg base (pr K CP CL CN da ca) "_law_draw" 1 2 w__law_draw) (G__law_great : Gf P w K mg base (pr K CP CL CN da ca) "_law_great" 3 1 w__law_great) (G__law_pick : Gf P w K mg base (pr K CP CL CN da ca) "_law_pick" 2 2 w__law_pick) : FnOk P w K mg base CX0 4 f fd ["_law_deck_here", "_law_arrays"] (spW (pr K CP CL CN da ca) 2 w__law_places) := by
  have sc := sc__law_places
  exact fnD 2 F sc rfl fun cdv A outer s H E hr => ⟨_, _, B__law_places,
    (pdb_cons (pds_setO 2 sc.nd (pdf_lst pda_nil))
    (pdb_cons (pds_for PassesOwn.never rfl (pdi_tup rfl (pd_v 1)) (pdg_t rfl rfl (pdgs_cons (pdg_n 3 sc.nd) (pdgs_cons (pdg_n 4 sc.nd) pdgs_nil)))
    (pdb_cons (pds_set 5 sc.nd (pd_g G__law_pick (hr.mono (by decide)) (pda_cons (pd_v 0) (pda_cons (pdf_lst (pda_cons pd_str (pda_cons pd_str (pda_cons (pd_tup (pda_cons pd_str (pda_cons (pd_op op_addD op2_add pd_int (pd_g G__law_draw (hr.mono (by decide)) (pda_cons (pd_v 0) (pda_cons pd_int pda_nil)))) pda_nil))) (pda_cons (pd_tup (pda_cons pd_str (pda_cons (pd_op op_addD op2_add pd_int (pd_g G__law_draw (hr.mono (by decide)) (pda_cons (pd_v 0) (pda_cons pd_int pda_nil)))) pda_nil))) pda_nil))))).pd pda_nil))))
    (pdb_one (pds_expr (pd_app 2 rfl (pd_tup (pda_cons (pd_v 3) (pda_cons (pd_op op_addD op2_add (pd_if (pdt_cmp (op_eqD hr.units) op2_eq (pd_v 5) pd_str) (pd_op op_sub op2_sub (pd_v 4) pd_int) pd_int) (pd_g G__law_great (hr.mono (by decide)) (pda_cons (pd_v 0) pda_nil))) (pda_cons (pd_v 5) pda_nil)))))))))
    (pdb_one (pds_ret (pd_v 2))))), fun _ _ _ _ h => by unfold w__law_places at h; exact h⟩
theorem sc__law_turned : FnScope ["_law_deck_here", "_law_rows", "_law_k", "_law_found"] ["_law_deck_here", "_law_rows"] (defScope (topS 73)) := ⟨rfl, rfl, rfl, by decide +kernel, rfl, by decide +kernel, by decide +kernel⟩
theorem ok__law_turned {f : Addr} {fd : FuncData} (T : Txt K mg CP CL CN te tm) (F : Fun K "_law_turned" "_law_turned" (topS 73) f fd) (G__law_draw : Gf P w K mg base (pr K CP CL CN da ca) "_law_draw" 1 2 w__law_draw) : FnOk P w K mg base CX0 2 f fd ["_law_deck_here", "_law_rows"] (spW (pr K CP CL CN da ca) 2 w__law_turned) := by
  have sc := sc__law_turned
  exact fnD 2 F sc rfl fun cdv A outer s H E hr => ⟨_, _, B__law_turned,
    (pdb_cons (pds_parFF 1 3 rfl sc.nd (pdf_slice rfl (pd_v 1) pdo_none pdo_none) (pdf_lst pda_nil))
    (pdb_cons (pds_for PassesOwn.never rfl (pdi_range1 T.b_range (pda_cons (pd_lenO 1 rfl T.b_len) pda_nil)) (pdg_n 2 sc.nd)
    (pdb_one (pds_expr (pd_app 3 rfl (pd_popAt 1 rfl (pd_g G__law_draw (hr.mono (by decide)) (pda_cons (pd_v 0) (pda_cons (pd_lenO 1 rfl T.b_len) pda_nil))))))))
    (pdb_one (pds_ret (pd_v 3))))), fun _ _ _ _ h => by unfold w__law_turned at h; exact h⟩
theorem sc__law_placement : FnScope ["_law_base", "_law_rows", "_law_many"] ["_law_base", "_law_rows"] (defScope (topS 74)) := ⟨rfl, rfl, rfl, by decide +kernel, rfl, by decide +kernel, by decide +kernel⟩
theorem ok__law_placement {f : Addr} {fd : FuncData} (T : Txt K mg CP CL CN te tm) (F : Fun K "_law_placement" "_law_placement" (topS 74) f fd) (G_Placement : GisX P w K mg base (pr K CP CL CN da ca) CL "Placement" 4 1 wI_Placement___init__) : FnOk P w K mg base CX0 6 f fd ["_law_base", "_law_rows"] (spW (pr K CP CL CN da ca) 2 w__law_placement) := by
  have sc := sc__law_placement
  exact fnD 2 F sc rfl fun cdv A outer s H E hr => ⟨_, _, B__law_placement,
    (pdb_cons (pds_set 2 sc.nd (pd_callB cr_len opc_len T.b_len PySem.boot_len (pda_cons (pd_v 1) pda_nil)))
    (pdb_cons (pds_if (pdt_cmp op_ltA op2_ltA (pd_v 2) pd_int) (pdb_one (pds_ret (pd_if (pdt_cmp (op_eqD hr.units) op2_eq (pd_v 2) pd_int) (pd_mkS G_Placement.g (hr.mono (by decide)) (pda_cons (pd_v 0) pda_nil)) (pd_mkS G_Placement.g (hr.mono (by decide)) (pda_cons (pd_v 0) (pda_cons (pd_ix rfl (pd_v 1) pd_int) pda_nil)))))) pdb_nil)
    (pdb_cons (pds_if (pdt_cmp op_ltA op2_ltA (pd_v 2) pd_int) (pdb_one (pds_ret (pd_if (pdt_cmp (op_eqD hr.units) op2_eq (pd_v 2) pd_int) (pd_mkS G_Placement.g (hr.mono (by decide)) (pda_cons (pd_v 0) (pda_cons (pd_ix rfl (pd_v 1) pd_int) (pda_cons (pd_ix rfl (pd_v 1) pd_int) pda_nil)))) (pd_mkS G_Placement.g (hr.mono (by decide)) (pda_cons (pd_v 0) (pda_cons (pd_ix rfl (pd_v 1) pd_int) (pda_cons (pd_ix rfl (pd_v 1) pd_int) (pda_cons (pd_ix rfl (pd_v 1) pd_int) pda_nil)))))))) pdb_nil)
    (pdb_cons (pds_if (pdt_cmp (op_eqD hr.units) op2_eq (pd_v 2) pd_int) (pdb_one (pds_ret (pd_mkS G_Placement.g (hr.mono (by decide)) (pda_cons (pd_v 0) (pda_cons (pd_ix rfl (pd_v 1) pd_int) (pda_cons (pd_ix rfl (pd_v 1) pd_int) (pda_cons (pd_ix rfl (pd_v 1) pd_int) (pda_cons (pd_ix rfl (pd_v 1) pd_int) pda_nil)))))))) pdb_nil)
    (pdb_cons (pds_if (pdt_cmp (op_eqD hr.units) op2_eq (pd_v 2) pd_int) (pdb_one (pds_ret (pd_mkS G_Placement.g (hr.mono (by decide)) (pda_cons (pd_v 0) (pda_cons (pd_ix rfl (pd_v 1) pd_int) (pda_cons (pd_ix rfl (pd_v 1) pd_int) (pda_cons (pd_ix rfl (pd_v 1) pd_int) (pda_cons (pd_ix rfl (pd_v 1) pd_int) (pda_cons (pd_ix rfl (pd_v 1) pd_int) pda_nil))))))))) pdb_nil)
    (pdb_cons (pds_if (pdt_cmp (op_eqD hr.units) op2_eq (pd_v 2) pd_int) (pdb_one (pds_ret (pd_mkS G_Placement.g (hr.mono (by decide)) (pda_cons (pd_v 0) (pda_cons (pd_ix rfl (pd_v 1) pd_int) (pda_cons (pd_ix rfl (pd_v 1) pd_int) (pda_cons (pd_ix rfl (pd_v 1) pd_int) (pda_cons (pd_ix rfl (pd_v 1) pd_int) (pda_cons (pd_ix rfl (pd_v 1) pd_int) (pda_cons (pd_ix rfl (pd_v 1) pd_int) pda_nil)))))))))) pdb_nil)
    (pdb_one (pds_ret (pd_mkS G_Placement.g (hr.mono (by decide)) (pda_cons (pd_v 0) (pda_cons (pd_ix rfl (pd_v 1) pd_int) (pda_cons (pd_ix rfl (pd_v 1) pd_int) (pda_cons (pd_ix rfl (pd_v 1) pd_int) (pda_cons (pd_ix rfl (pd_v 1) pd_int) (pda_cons (pd_ix rfl (pd_v 1) pd_int) (pda_cons (pd_ix rfl (pd_v 1) pd_int) (pda_cons (pd_ix rfl (pd_v 1) pd_int) pda_nil))))))))))))))))), fun _ _ _ _ h => by unfold w__law_placement at h; exact h⟩
theorem sc__law_moved : FnScope ["_law_placement_here", "_law_pairs_here", "_law_many"] ["_law_placement_here", "_law_pairs_here"] (defScope (topS 75)) := ⟨rfl, rfl, rfl, by decide +kernel, rfl, by decide +kernel, by decide +kernel⟩
theorem ok__law_moved {f : Addr} {fd : FuncData} (T : Txt K mg CP CL CN te tm) (F : Fun K "_law_moved" "_law_moved" (topS 75) f fd) (G_Placement_moved : GmsX P w K mg base (pr K CP CL CN da ca) CL (Str.ofString "moved") 6 1 w_Placement_moved) : FnOk P w K mg base (L2.CX P w) 7 f fd ["_law_placement_here", "_law_pairs_here"] (spX (pr K CP CL CN da ca) 2 w__law_moved) := by
  have sc := sc__law_moved
  exact fnX 2 F sc rfl fun cdv A outer s H E hr => ⟨_, _, B__law_moved,
    (pdbx_cons (PDS.x (pds_set 2 sc.nd (pd_callB cr_len opc_len T.b_len PySem.boot_len (pda_cons (pd_v 1) pda_nil))))
    (pdbx_cons (pdsx_if (pdt_cmp op_ltA op2_ltA (pd_v 2) pd_int) (pdbx_one (pdsx_ret (pdx_if (pdt_cmp (op_eqD hr.units) op2_eq (pd_v 2) pd_int) (pdx_methS0 "Placement" "moved" T.cp_Placement rfl G_Placement_moved (takes_of rfl rfl rfl rfl) (hr.mono (by decide)) (pd_v 0)) (pdx_methS "Placement" "moved" T.cp_Placement rfl G_Placement_moved (takes_of rfl rfl rfl rfl) (hr.mono (by decide)) (pd_v 0) (pda_cons (pd_ix rfl (pd_v 1) pd_int) pda_nil))))) pdbx_nil)
    (pdbx_cons (pdsx_if (pdt_cmp (op_eqD hr.units) op2_eq (pd_v 2) pd_int) (pdbx_one (pdsx_ret (pdx_methS "Placement" "moved" T.cp_Placement rfl G_Placement_moved (takes_of rfl rfl rfl rfl) (hr.mono (by decide)) (pd_v 0) (pda_cons (pd_ix rfl (pd_v 1) pd_int) (pda_cons (pd_ix rfl (pd_v 1) pd_int) pda_nil))))) pdbx_nil)
    (pdbx_cons (pdsx_if (pdt_cmp (op_eqD hr.units) op2_eq (pd_v 2) pd_int) (pdbx_one (pdsx_ret (pdx_methS "Placement" "moved" T.cp_Placement rfl G_Placement_moved (takes_of rfl rfl rfl rfl) (hr.mono (by decide)) (pd_v 0) (pda_cons (pd_ix rfl (pd_v 1) pd_int) (pda_cons (pd_ix rfl (pd_v 1) pd_int) (pda_cons (pd_ix rfl (pd_v 1) pd_int) pda_nil)))))) pdbx_nil)
    (pdbx_cons (pdsx_if (pdt_cmp (op_eqD hr.units) op2_eq (pd_v 2) pd_int) (pdbx_one (pdsx_ret (pdx_methS "Placement" "moved" T.cp_Placement rfl G_Placement_moved (takes_of rfl rfl rfl rfl) (hr.mono (by decide)) (pd_v 0) (pda_cons (pd_ix rfl (pd_v 1) pd_int) (pda_cons (pd_ix rfl (pd_v 1) pd_int) (pda_cons (pd_ix rfl (pd_v 1) pd_int) (pda_cons (pd_ix rfl (pd_v 1) pd_int) pda_nil))))))) pdbx_nil)
    (pdbx_cons (pdsx_if (pdt_cmp (op_eqD hr.units) op2_eq (pd_v 2) pd_int) (pdbx_one (pdsx_ret (pdx_methS "Placement" "moved" T.cp_Placement rfl G_Placement_moved (takes_of rfl rfl rfl rfl) (hr.mono (by decide)) (pd_v 0) (pda_cons (pd_ix rfl (pd_v 1) pd_int) (pda_cons (pd_ix rfl (pd_v 1) pd_int) (pda_cons (pd_ix rfl (pd_v 1) pd_int) (pda_cons (pd_ix rfl (pd_v 1) pd_int) (pda_cons (pd_ix rfl (pd_v 1) pd_int) pda_nil)))))))) pdbx_nil)
    (pdbx_one (pdsx_ret (pdx_methS "Placement" "moved" T.cp_Placement rfl G_Placement_moved (takes_of rfl rfl rfl rfl) (hr.mono (by decide)) (pd_v 0) (pda_cons (pd_ix rfl (pd_v 1) pd_int) (pda_cons (pd_ix rfl (pd_v 1) pd_int) (pda_cons (pd_ix rfl (pd_v 1) pd_int) (pda_cons (pd_ix rfl (pd_v 1) pd_int) (pda_cons (pd_ix rfl (pd_v 1) pd_int) (pda_cons (pd_ix rfl (pd_v 1) pd_int) pda_nil))))))))))))))), fun _ _ _ _ _ h => by unfold w__law_moved at h; exact h⟩
theorem sc__law_pairs : FnScope ["_law_deck_here", "_law_arrays", "_law_rows", "_law_pairs_here", "_law_place", "_law_name", "_law_size_here", "_law_least", "_law_first"] ["_law_deck_here", "_law_arrays", "_law_rows"] (defScope (topS 76)) := ⟨rfl, rfl, rfl, by decide +kernel, rfl, by decide +kernel, by decide +kernel⟩
theorem ok__law_pairs {f : Addr} {fd : FuncData} (T : Txt K mg CP CL CN te tm) (F : Fun K "_law_pairs" "_law_pairs" (topS 76) f fd) (G__law_draw : Gf P w K mg base (pr K CP CL CN da ca) "_law_draw" 1 2 w__law_draw) (G__law_great : Gf P w K mg base (pr K CP CL CN da ca) "_law_great" 3 1 w__law_great) : FnOk P w K mg base CX0 4 f fd ["_law_deck_here", "_law_arrays", "_law_rows"] (spW (pr K CP CL CN da ca) 3 w__law_pairs) := by
  have sc := sc__law_pairs
  exact fnD 3 F sc rfl fun cdv A outer s H E hr => ⟨_, _, B__law_pairs,
    (pdb_cons (pds_setO 3 sc.nd (pdf_lst pda_nil))
    (pdb_cons (pds_for PassesOwn.never rfl (pdi_zipM rfl T.b_zip (pda_cons (pd_v 1) (pda_cons (pd_v 2) pda_nil))) (pdg_t rfl rfl (pdgs_cons (pdg_t rfl rfl (pdgs_cons (pdg_n 5 sc.nd) (pdgs_cons (pdg_n 6 sc.nd) pdgs_nil))) (pdgs_cons (pdg_n 4 sc.nd) pdgs_nil)))
    (pdb_one (pds_if (pdt_cmp op_gt op2_gt (pd_g G__law_draw (hr.mono (by decide)) (pda_cons (pd_v 0) (pda_cons pd_int pda_nil))) pd_int) (pdb_cons (pds_set 7 sc.nd (pd_if (pdt_cmp (op_eqD hr.units) op2_eq (pd_ix rfl (pd_v 4) pd_int) pd_str) (pd_op op_sub op2_sub (pd_v 6) pd_int) pd_int))
    (pdb_cons (pds_set 8 sc.nd (pd_op op_addD op2_add (pd_v 7) (pd_g G__law_great (hr.mono (by decide)) (pda_cons (pd_v 0) pda_nil))))
    (pdb_cons (pds_if (pdt_cmp (op_eqD hr.units) op2_eq (pd_g G__law_draw (hr.mono (by decide)) (pda_cons (pd_v 0) (pda_cons pd_int pda_nil))) pd_int) (pdb_one (pds_set 8 sc.nd (pd_op op_sub op2_sub (pd_v 7) pd_int))) pdb_nil)
    (pdb_one (pds_expr (pd_ins 3 rfl (pd_g G__law_draw (hr.mono (by decide)) (pda_cons (pd_v 0) (pda_cons (pd_op op_addD op2_add (pd_lenO 3 rfl T.b_len) pd_int) pda_nil))) (pd_tup (pda_cons (pd_v 5) (pda_cons (pd_v 8) pda_nil))))))))) pdb_nil)))
    (pdb_one (pds_ret (pd_v 3))))), fun _ _ _ _ h => by unfold w__law_pairs at h; exact h⟩
theorem sc__law_right : FnScope ["_law_placement_here", "_law_arrays", "_law_rows", "_law_pairs_here", "_law_made", "_law_back", "_law_due", "_law_is_low", "_law_firsts", "_law_name", "_law_size_here", "_law_same", "_law_first", "_law_layout", "_law_other", "_law_cell"] ["_law_placement_here", "_law_arrays", "_law_rows", "_law_pairs_here"] (defScope (topS 77)) := ⟨rfl, rfl, rfl, by decide +kernel, rfl, by decide +kernel, by decide +kernel⟩
theorem ok__law_right {f : Addr} {fd : FuncData} (T : Txt K mg CP CL CN te tm) (F : Fun K "_law_right" "_law_right" (topS 77) f fd) (G_Placement___eq__ : Geq P w K mg base (pr K CP CL CN da ca) CL 3 w_Placement___eq__) (G_Program___eq__ : Geq P w K mg base (pr K CP CL CN da ca) CP 1 w_Program___eq__) (G__law_moved : GfX P w K mg base (pr K CP CL CN da ca) "_law_moved" 7 2 w__law_moved) : FnG P w K mg base 8 f fd ["_law_placement_here", "_law_arrays", "_law_rows", "_law_pairs_here"] (spW (pr K CP CL CN da ca) 4 w__law_right) := by
  have sc := sc__law_right
  exact fnGD 4 F sc rfl fun cdv A outer s H E gd hr => ⟨_, _, B__law_right,
    (pdb_cons (pds_parFV 6 7 rfl sc.nd (pdf_lst pda_nil) pd_bl)
    (pdb_cons (pds_for PassesOwn.never rfl (pdi_zipM rfl T.b_zip (pda_cons (pd_v 1) (pda_cons (pd_v 2) pda_nil))) (pdg_t rfl rfl (pdgs_cons (pdg_t rfl rfl (pdgs_cons (pdg_n 9 sc.nd) (pdgs_cons (pdg_n 10 sc.nd) pdgs_nil))) (pdgs_cons (pdg_t rfl rfl (pdgs_cons (pdg_n 11 sc.nd) (pdgs_cons (pdg_n 12 sc.nd) (pdgs_cons (pdg_n 13 sc.nd) pdgs_nil)))) pdgs_nil)))
    (pdb_cons (pds_set 8 sc.nd (pd_op op_addD op2_add (pdf_lc [(Str.ofString "_law_other", 14), (Str.ofString "_law_cell", 15)] rfl sc.nd (pdi_list rfl (pd_v 3)) rfl (fun _ _ _ _ _ => (pdg_t rfl rfl (pdgs_cons (pdg_n 14 sc.nd) (pdgs_cons (pdg_n 15 sc.nd) pdgs_nil)))) (fun _ _ _ _ _ => (pdts_one (pdt_cmp (op_eqD hr.units) op2_eq (pd_v 14) (pd_v 9)))) (fun _ _ _ _ _ => (pd_v 15))).pd (pdf_lst (pda_cons (pd_v 12) pda_nil)).pd))
    (pdb_cons (pds_expr (pd_app 6 rfl (pd_tup (pda_cons (pd_v 9) (pda_cons (pd_ix rfl (pd_v 8) pd_int) (pda_cons (pd_v 13) pda_nil))))))
    (pdb_one (pds_set 7 sc.nd (pd_or (pd_v 7) (pd_one (pd_cmp op_ltA op2_ltA (pd_ix rfl (pd_v 8) pd_int) (pd_if (pdt_cmp (op_eqD hr.units) op2_eq (pd_v 13) pd_str) (pd_op op_sub op2_sub (pd_v 10) pd_int) pd_int)))))))))
    (pdb_cons (pds_set 4 sc.nd pd_non)
    (pdb_cons (pds_try T.x_NoPlacement T.xm_NoPlacement (fun W pn xe tk po => ⟨_, (pdbx_one (pdsx_set 4 sc.nd (pdx_g G__law_moved tk (hr.mono (by decide)) (pda_cons (pd_v 0) (pda_cons (pd_v 3) pda_nil)))))⟩)
    (fun a oe pn => ⟨_, (pdb_one (pds_ret (pd_and (pd_v 7) (pd_one (pd_cmp op_eq op2_eqS (pd_repr rfl T.b_repr hr.units gd (pda_cons (pd_fld "Placement" rfl T.cp_Placement T.na_Placement_places (pd_v 0)) pda_nil)) (pd_repr rfl T.b_repr hr.units gd (pda_cons (pd_callT call_tuple_of opc_tuple T.b_tuple (by decide +kernel) (pda_cons (pd_v 2) pda_nil)) pda_nil)))))))⟩))
    (pdb_cons (pds_if (pdw_or (pdt_val (pd_v 7)) (pdw_or (pdt_cmp op_ne op2_neS (pd_repr rfl T.b_repr hr.units gd (pda_cons (pd_fld "Placement" rfl T.cp_Placement T.na_Placement_places (pd_v 4)) pda_nil)) (pd_repr rfl T.b_repr hr.units gd (pda_cons (pd_callT call_tuple_of opc_tuple T.b_tuple (by decide +kernel) (pda_cons (pd_v 6) pda_nil)) pda_nil))) (pdw_or1 (pdt_neO "Program" ["Program", "Placement"] T.cp_Program T.os_Program rfl G_Program___eq__ (hr.mono (by decide)) (pd_fld "Placement" rfl T.cp_Placement T.na_Placement_program (pd_v 4)) (pd_fld "Placement" rfl T.cp_Placement T.na_Placement_program (pd_v 0)))))).pt (pdb_one (pds_ret pd_bl)) pdb_nil)
    (pdb_cons (pds_set 5 sc.nd (pd_g G__law_moved.g (hr.mono (by decide)) (pda_cons (pd_v 4) (pda_cons (pdf_lc [(Str.ofString "_law_name", 9), (Str.ofString "_law_first", 12), (Str.ofString "_law_layout", 13)] rfl sc.nd (pdi_list rfl (pd_v 2)) rfl (fun _ _ _ _ _ => (pdg_t rfl rfl (pdgs_cons (pdg_n 9 sc.nd) (pdgs_cons (pdg_n 12 sc.nd) (pdgs_cons (pdg_n 13 sc.nd) pdgs_nil))))) (fun _ _ _ _ _ => pdts_nil) (fun _ _ _ _ _ => (pd_tup (pda_cons (pd_v 9) (pda_cons (pd_v 12) pda_nil))))).pd pda_nil))))
    (pdb_cons (pds_if (pdw_or (pdt_cmp op_ne op2_neS (pd_repr rfl T.b_repr hr.units gd (pda_cons (pd_fld "Placement" rfl T.cp_Placement T.na_Placement_places (pd_v 0)) pda_nil)) (pd_repr rfl T.b_repr hr.units gd (pda_cons (pd_callT call_tuple_of opc_tuple T.b_tuple (by decide +kernel) (pda_cons (pd_v 2) pda_nil)) pda_nil))) (pdw_or1 (pdt_not (pdt_eqO "Placement" ["Program", "Placement"] T.cp_Placement T.os_Placement rfl G_Placement___eq__ (hr.mono (by decide)) (pd_v 5) (pd_v 0))))).pt (pdb_one (pds_ret pd_bl)) pdb_nil)
    (pdb_one (pds_ret (pd_cmp (op_eqD hr.units) op2_eq (pd_eqO "Placement" ["Program", "Placement"] T.cp_Placement T.os_Placement rfl G_Placement___eq__ (hr.mono (by decide)) (pd_v 4) (pd_v 0)) (pd_cmp (op_eqD hr.units) op2_eq (pd_v 6) (pd_v 2)))))))))))), fun _ _ _ _ h => by unfold w__law_right at h; exact h⟩
theorem sc__law_apart_right : FnScope ["_law_base", "_law_made", "_law_due", "_law_first", "_law_name", "_law_size_here"] ["_law_base"] (defScope (topS 78)) := ⟨rfl, rfl, rfl, by decide +kernel, rfl, by decide +kernel, by decide +kernel⟩
theorem ok__law_apart_right {f : Addr} {fd : FuncData} (T : Txt K mg CP CL CN te tm) (F : Fun K "_law_apart_right" "_law_apart_right" (topS 78) f fd) (G_Placement_apart_k : GcmK P w K mg base (pr K CP CL CN da ca) CL "Placement" (Str.ofString "apart") (Str.ofString "program") 6 w_Placement_apart) (G_Placement_size : Gp P w K mg base (pr K CP CL CN da ca) CL (Str.ofString "size") 2 w_Placement_size) : FnG P w K mg base 7 f fd ["_law_base"] (spW (pr K CP CL CN da ca) 1 w__law_apart_right) := by
  have sc := sc__law_apart_right
  exact fnGD 1 F sc rfl fun cdv A outer s H E gd hr => ⟨_, _, B__law_apart_right,
    (pdb_cons (pds_parFV 2 3 rfl sc.nd (pdf_lst pda_nil) pd_int)
    (pdb_cons (pds_for PassesOwn.never rfl (pdi_tup rfl (pd_fld "Program" rfl T.cp_Program T.na_Program_arrays (pd_v 0))) (pdg_t rfl rfl (pdgs_cons (pdg_n 4 sc.nd) (pdgs_cons (pdg_n 5 sc.nd) pdgs_nil)))
    (pdb_cons (pds_expr (pd_app 2 rfl (pd_tup (pda_cons (pd_v 4) (pda_cons (pd_v 3) (pda_cons pd_str pda_nil))))))
    (pdb_one (pds_set 3 sc.nd (pd_op op_addD op2_add (pd_v 3) (pd_v 5))))))
    (pdb_cons (pds_set 1 sc.nd (pd_cmethK "Placement" rfl G_Placement_apart_k (hr.mono (by decide)) (pd_v 0)))
    (pdb_one (pds_ret (pd_and (pd_callB call_isi (opc_isiO T.isi) T.b_isinstance (by decide +kernel) (pda_cons (pd_v 1) (pda_cons (pd_gl (.cls "Placement") T.cg_Placement (fun _ _ => T.cr_Placement)) pda_nil))) (pd_and (pd_cmp op_eq op2_eqS (pd_repr rfl T.b_repr hr.units gd (pda_cons (pd_fld "Placement" rfl T.cp_Placement T.na_Placement_places (pd_v 1)) pda_nil)) (pd_repr rfl T.b_repr hr.units gd (pda_cons (pd_callT call_tuple_of opc_tuple T.b_tuple (by decide +kernel) (pda_cons (pd_v 2) pda_nil)) pda_nil))) (pd_one (pd_cmp (op_eqD hr.units) op2_eq (pd_propG "Placement" T.cp_Placement rfl G_Placement_size (hr.mono (by decide)) (pd_v 1)) (pd_v 3)))))))))), fun _ _ _ _ h => by unfold w__law_apart_right at h; exact h⟩
end
end K22
end
section
namespace K22
open PySem L2 DL StX
section
variable {P : Program} {w : World} {K : PySem.W.Frag} {mg : Str → Option Value} {base : Heap} {CP CL CN te da ca : Addr} {tm : Tok}
theorem sc_law : FnScope ["_law_script", "_law_deck_here", "_law_turn", "_law_base", "_law_arrays", "_law_rows", "_law_placement_here", "_law_tries", "_law_k", "_law_pairs_here"] ["_law_script"] (defScope (topS 79)) := ⟨rfl, rfl, rfl, by decide +kernel, rfl, by decide +kernel, by decide +kernel⟩
theorem rest_law {f : Addr} (T : Txt K mg CP CL CN te tm) (G__law_pairs : Gf P w K mg base (pr K CP CL CN da ca) "_law_pairs" 4 3 w__law_pairs) (G__law_placement : Gf P w K mg base (pr K CP CL CN da ca) "_law_placement" 6 2 w__law_placement) (G__law_places : Gf P w K mg base (pr K CP CL CN da ca) "_law_places" 4 2 w__law_places) (G__law_program : Gf P w K mg base (pr K CP CL CN da ca) "_law_program" 7 1 w__law_program) (G__law_turned : Gf P w K mg base (pr K CP CL CN da ca) "_law_turned" 2 2 w__law_turned) (G__law_apart_right : Gg P w K mg base (pr K CP CL CN da ca) "_law_apart_right" 7 1 w__law_apart_right) (G__law_right : Gg P w K mg base (pr K CP CL CN da ca) "_law_right" 8 4 w__law_right) (cdv : Value) (A : Around) (outer : List PySem.Env) (s : Shared) (H : Hp) (E : XK) (gd : (A.deeper (PyProof.Rows.envOfC "law" (defScope (topS 79)) s.heap.objs.size f cdv)).guards = some []) (hr : Room 8 (A.deeper (PyProof.Rows.envOfC "law" (defScope (topS 79)) s.heap.objs.size f cdv))) :
    ∃ gs t, PDB (pr K CP CL CN da ca) (cxOf CX0 P w K mg base ["_law_script", "_law_deck_here", "_law_turn", "_law_base", "_law_arrays", "_law_rows", "_law_placement_here", "_law_tries", "_law_k", "_law_pairs_here"] "law" (defScope (topS 79)) f cdv A outer s H E).nox (defBody (topS 79)).tail gs t B_law := by
  have sc := sc_law
  exact ⟨_, _, (pdb_cons (pds_for PassesOwn.never rfl (pdi_range1 T.b_range (pda_cons pd_int pda_nil)) (pdg_n 2 sc.nd)
    (pdb_cons (pds_set 3 sc.nd (pd_g G__law_program (hr.mono (by decide)) (pda_cons (pd_v 1) pda_nil)))
    (pdb_cons (pds_set 4 sc.nd (pd_fld "Program" rfl T.cp_Program T.na_Program_arrays (pd_v 3)))
    (pdb_cons (pds_set 5 sc.nd (pd_g G__law_places (hr.mono (by decide)) (pda_cons (pd_v 1) (pda_cons (pd_v 4) pda_nil))))
    (pdb_cons (pds_set 6 sc.nd (pd_g G__law_placement (hr.mono (by decide)) (pda_cons (pd_v 3) (pda_cons (pd_g G__law_turned (hr.mono (by decide)) (pda_cons (pd_v 1) (pda_cons (pd_v 5) pda_nil))) pda_nil))))
    (pdb_cons (pds_set 7 sc.nd (pd_op op_addD op2_add (pdf_lc [(Str.ofString "_law_k", 8)] rfl sc.nd (pdi_range1 T.b_range (pda_cons pd_int pda_nil)) rfl (fun _ _ _ _ _ => (pdg_n 8 sc.nd)) (fun _ _ _ _ _ => pdts_nil) (fun _ _ _ _ _ => (pd_g G__law_pairs (hr.mono (by decide)) (pda_cons (pd_v 1) (pda_cons (pd_v 4) (pda_cons (pd_v 5) pda_nil)))))).pd (pdf_lst (pda_cons (pdf_lst pda_nil).pd pda_nil)).pd))
    (pdb_cons (pds_if (pdt_cmp (op_neD hr.units) op2_ne (pdf_lc [(Str.ofString "_law_pairs_here", 9)] rfl sc.nd (pdi_list rfl (pd_v 7)) rfl (fun _ _ _ _ _ => (pdg_n 9 sc.nd)) (fun _ _ _ _ _ => (pdts_one (pdt_not (pdt_val (pd_gg G__law_right (hr.mono (by decide)) gd (pda_cons (pd_v 6) (pda_cons (pd_v 4) (pda_cons (pd_v 5) (pda_cons (pd_v 9) pda_nil))))))))) (fun _ _ _ _ _ => (pd_v 9))).pd (pdf_lst pda_nil).pd) (pdb_one (pds_ret pd_bl)) pdb_nil)
    (pdb_one (pds_if (pdt_not (pdt_val (pd_gg G__law_apart_right (hr.mono (by decide)) gd (pda_cons (pd_v 3) pda_nil)))) (pdb_one (pds_ret pd_bl)) pdb_nil)))))))))
    (pdb_one (pds_ret pd_bl)))⟩
end
end K22
end
section
namespace K22
open PySem L2 DL StX
open PyProof.Rows (envOfC)
/-- any reading that the block keeps -/
def tAny (X : Cx) (b : List Stmt) : TS := fun D σ H => ∃ t, PSs X b t ∧ t D σ H
theorem pss_any {X : Cx} {b : List Stmt} : PSs X b (tAny X b) := ⟨fun pins s σ H D I ⟨_, p, q⟩ => p.run pins s σ H D I q⟩
def spLaw (K : PySem.W.Frag) : Sp := fun vs H Q _ => ∃ (a : Addr) (ns : List Int), vs = [.ref a] ∧ SqL K H a (ns.map V.int) ∧ ns.length ≤ 63 ∧ ∀ H', Q (.bl true) H'
section
variable {P : Program} {w : World} {K : PySem.W.Frag} {mg : Str → Option Value} {base : Heap} {CP CL CN te da ca : Addr} {tm : Tok}
theorem ok__law_draw {f : Addr} {fd : FuncData} (T : Txt K mg CP CL CN te tm) (F : Fun K "_law_draw" "_law_draw" (topS 66) f fd) : FnOk P w K mg base CX0 1 f fd ["_law_deck_here", "_law_many"] (spW (pr K CP CL CN da ca) 2 w__law_draw) := by
  refine (ok0__law_draw (da := da) (ca := ca) T F).imp fun vs H Q E h => ?_
  obtain ⟨O0, ds, n, q, th, hdk, at', r, hl, hw, fin⟩ := h
  unfold w__law_draw at hw
  obtain ⟨m, rfl, m0, m1, hn, hq⟩ := hw
  obtain ⟨x, xs, rfl, rx, r2⟩ := r
  obtain ⟨y, ys, rfl, ry, r3⟩ := r2
  cases r3
  obtain ⟨a, rfl, ea⟩ := rx
  obtain rfl : da = a := Option.some.inj ea
  obtain rfl : y = V.int m := ry
  exact ⟨m, n, rfl, at', m0, m1, hn, fun H' k k0 k1 kp at2 => fin (.int k) (n + 1) (.int k) H' (hq k k0 k1) (fun b o nd e => kp b o (fun z => nd (.inl z)) (fun z => nd (.inr z)) e) at2 rfl⟩
theorem ok_law {f fD : Addr} {fd fdD : FuncData} (F : Fun K "law" "law" (topS 79) f fd) (FD : FnOk P w K mg base CX0 1 fD fdD ["_law_script"] (spDeck K)) (mD : mg "_law_deck" = some (.ref fD)) (kD : PySem.W.keepIn K (.ref fD) = true) (bD : Binds K fdD ["_law_script"] [])
    (R : ∀ (da ca : Addr) (cdv : Value) (A : Around) (outer : List PySem.Env) (s : Shared) (H : Hp) (E : XK), (A.deeper (envOfC "law" (defScope (topS 79)) s.heap.objs.size f cdv)).guards = some [] → Room 8 (A.deeper (envOfC "law" (defScope (topS 79)) s.heap.objs.size f cdv)) →
      ∃ gs t, PDB (pr K CP CL CN da ca) (cxOf CX0 P w K mg base ["_law_script", "_law_deck_here", "_law_turn", "_law_base", "_law_arrays", "_law_rows", "_law_placement_here", "_law_tries", "_law_k", "_law_pairs_here"] "law" (defScope (topS 79)) f cdv A outer s H E).nox (defBody (topS 79)).tail gs t B_law) :
    FnG P w K mg base 9 f fd ["_law_script"] (spLaw K) := by
  have sc := sc_law
  refine fnG_of F sc (fun vs H Q E h => ?_) fun cdv A outer s H vs Q E gd hr h => ⟨_, pss_cons (ps_set (i := 1) sc.nd rfl (by first | exact Or.inl rfl | exact Or.inr rfl) (pe_call FD (hr.mono (by decide)) rfl mD kD bD .nil pass0 (pa_cons (pv 0) pa_nil))) pss_any, ?_⟩
  · obtain ⟨a, ns, rfl, _⟩ := h
    rfl
  obtain ⟨a, ns, rfl, hS, hl, q⟩ := h
  refine ⟨_, rfl, a, ns, rfl, hS, hl, fun H' da ca _ _ _ at' => ?_⟩
  obtain ⟨gs, t, pb⟩ := R da ca cdv A outer s H E gd hr
  refine ⟨t, pb.ps, pb.sim (fun b => b = da ∨ b = ca) H' _ H' (.un :: .val (.ext 0) :: List.replicate 8 .un) 0 { nx := fun _ _ => False, rt := fun d _ => d = .bl true } _ ⟨rfl, fun i d e => ?_, fun i d e => ?_, fun i j d e b e1 => ?_, fun b o _ e => e, fun b hb => (pr K CP CL CN da ca).there 0 H' b at' hb, fun b hb => hb, at'⟩ (s_law fun n => rfl) ⟨fun _ _ _ _ z => z.elim, fun _ _ _ _ z => z.elim, fun _ _ _ _ z => z.elim, fun d n v H2 e _ _ r => ?_⟩⟩
  · match i with
    | 0 => cases e
    | 1 =>
      cases e
      exact ⟨.ref da, rfl, da, rfl, rfl⟩
    | i + 2 =>
      have e : (List.replicate 8 Slot.un)[i]? = some (.val d) := e
      rw [List.getElem?_replicate] at e
      split at e <;> cases e
  · match i with
    | 0 => cases e
    | 1 => cases e
    | i + 2 =>
      have e : (List.replicate 8 Slot.un)[i]? = some (.own d) := e
      rw [List.getElem?_replicate] at e
      split at e <;> cases e
  · match i with
    | 0 => cases e1
    | 1 => cases e1
    | i + 2 =>
      have e1 : (List.replicate 8 Slot.un)[i]? = some (.own d) := e1
      rw [List.getElem?_replicate] at e1
      split at e1 <;> cases e1
  · have e : d = .bl true := e
    subst e
    rw [show v = V.bl true from r]
    exact q H2
end
end K22
end
section
namespace K22
open PySem L2 DL StX
set_option maxHeartbeats 0 in
theorem facts {l : PySem.W.OpenLaw} {w : World} {K : PySem.W.Frag} {h : Heap} {mg : Str → Option Value} {fa : Addr}
    {CP : Addr}
    {CL : Addr}
    {f__law_deck : Addr} {oc__law_deck kV__law_deck dc__law_deck pm__law_deck cd__law_deck ct__law_deck : Value} {od__law_deck an__law_deck : Option Addr} {sl__law_deck : Array (Option Value)}
    {f__law_draw : Addr} {oc__law_draw kV__law_draw dc__law_draw pm__law_draw cd__law_draw ct__law_draw : Value} {od__law_draw an__law_draw : Option Addr} {sl__law_draw : Array (Option Value)}
    {f_is_integer : Addr} {oc_is_integer kV_is_integer dc_is_integer pm_is_integer cd_is_integer ct_is_integer : Value} {od_is_integer an_is_integer : Option Addr} {sl_is_integer : Array (Option Value)}
    {f_is_name : Addr} {oc_is_name kV_is_name dc_is_name pm_is_name cd_is_name ct_is_name : Value} {od_is_name an_is_name : Option Addr} {sl_is_name : Array (Option Value)}
    {f_is_amount : Addr} {oc_is_amount kV_is_amount dc_is_amount pm_is_amount cd_is_amount ct_is_amount : Value} {od_is_amount an_is_amount : Option Addr} {sl_is_amount : Array (Option Value)}
    {f_are_ascending : Addr} {oc_are_ascending kV_are_ascending dc_are_ascending pm_are_ascending cd_are_ascending ct_are_ascending : Value} {od_are_ascending an_are_ascending : Option Addr} {sl_are_ascending : Array (Option Value)}
    {f_are_arrays : Addr} {oc_are_arrays kV_are_arrays dc_are_arrays pm_are_arrays cd_are_arrays ct_are_arrays : Value} {od_are_arrays an_are_arrays : Option Addr} {sl_are_arrays : Array (Option Value)}
    {f_is_access : Addr} {oc_is_access kV_is_access dc_is_access pm_is_access cd_is_access ct_is_access : Value} {od_is_access an_is_access : Option Addr} {sl_is_access : Array (Option Value)}
    {f_is_statement : Addr} {oc_is_statement kV_is_statement dc_is_statement pm_is_statement cd_is_statement ct_is_statement : Value} {od_is_statement an_is_statement : Option Addr} {sl_is_statement : Array (Option Value)}
    {f_are_loops : Addr} {oc_are_loops kV_are_loops dc_are_loops pm_are_loops cd_are_loops ct_are_loops : Value} {od_are_loops an_are_loops : Option Addr} {sl_are_loops : Array (Option Value)}
    {f_are_outputs : Addr} {oc_are_outputs kV_are_outputs dc_are_outputs pm_are_outputs cd_are_outputs ct_are_outputs : Value} {od_are_outputs an_are_outputs : Option Addr} {sl_are_outputs : Array (Option Value)}
    {f_all_writers : Addr} {oc_all_writers kV_all_writers dc_all_writers pm_all_writers cd_all_writers ct_all_writers : Value} {od_all_writers an_all_writers : Option Addr} {sl_all_writers : Array (Option Value)}
    {f_all_reads : Addr} {oc_all_reads kV_all_reads dc_all_reads pm_all_reads cd_all_reads ct_all_reads : Value} {od_all_reads an_all_reads : Option Addr} {sl_all_reads : Array (Option Value)}
    {f_first_out : Addr} {oc_first_out kV_first_out dc_first_out pm_first_out cd_first_out ct_first_out : Value} {od_first_out an_first_out : Option Addr} {sl_first_out : Array (Option Value)}
    {f_at_most : Addr} {oc_at_most kV_at_most dc_at_most pm_at_most cd_at_most ct_at_most : Value} {od_at_most an_at_most : Option Addr} {sl_at_most : Array (Option Value)}
    {f_last_step : Addr} {oc_last_step kV_last_step dc_last_step pm_last_step cd_last_step ct_last_step : Value} {od_last_step an_last_step : Option Addr} {sl_last_step : Array (Option Value)}
    {f_meeting : Addr} {oc_meeting kV_meeting dc_meeting pm_meeting cd_meeting ct_meeting : Value} {od_meeting an_meeting : Option Addr} {sl_meeting : Array (Option Value)}
    {f_first_met : Addr} {oc_first_met kV_first_met dc_first_met pm_first_met cd_first_met ct_first_met : Value} {od_first_met an_first_met : Option Addr} {sl_first_met : Array (Option Value)}
    {f_Program_inputs : Addr} {oc_Program_inputs kV_Program_inputs dc_Program_inputs pm_Program_inputs cd_Program_inputs ct_Program_inputs : Value} {od_Program_inputs an_Program_inputs : Option Addr} {sl_Program_inputs : Array (Option Value)}
    {p_Program_inputs : Addr} {rest_Program_inputs : List Value}
    {f_Program_size_of : Addr} {oc_Program_size_of kV_Program_size_of dc_Program_size_of pm_Program_size_of cd_Program_size_of ct_Program_size_of : Value} {od_Program_size_of an_Program_size_of : Option Addr} {sl_Program_size_of : Array (Option Value)}
    {f_Program___contains__ : Addr} {oc_Program___contains__ kV_Program___contains__ dc_Program___contains__ pm_Program___contains__ cd_Program___contains__ ct_Program___contains__ : Value} {od_Program___contains__ an_Program___contains__ : Option Addr} {sl_Program___contains__ : Array (Option Value)}
    {f_check_bounds : Addr} {oc_check_bounds kV_check_bounds dc_check_bounds pm_check_bounds cd_check_bounds ct_check_bounds : Value} {od_check_bounds an_check_bounds : Option Addr} {sl_check_bounds : Array (Option Value)}
    {f_check_writes : Addr} {oc_check_writes kV_check_writes dc_check_writes pm_check_writes cd_check_writes ct_check_writes : Value} {od_check_writes an_check_writes : Option Addr} {sl_check_writes : Array (Option Value)}
    {f_check_uses : Addr} {oc_check_uses kV_check_uses dc_check_uses pm_check_uses cd_check_uses ct_check_uses : Value} {od_check_uses an_check_uses : Option Addr} {sl_check_uses : Array (Option Value)}
    {f_Program___init__ : Addr} {oc_Program___init__ kV_Program___init__ dc_Program___init__ pm_Program___init__ cd_Program___init__ ct_Program___init__ : Value} {od_Program___init__ an_Program___init__ : Option Addr} {sl_Program___init__ : Array (Option Value)}
    {T_Program___init__ : Addr} {xT_Program___init__ : Value} {dT_Program___init__ : Option Addr} {nT_Program___init__ : Nat} {sT_Program___init__ : Array (Option Value)}
    {f_Program___eq__ : Addr} {oc_Program___eq__ kV_Program___eq__ dc_Program___eq__ pm_Program___eq__ cd_Program___eq__ ct_Program___eq__ : Value} {od_Program___eq__ an_Program___eq__ : Option Addr} {sl_Program___eq__ : Array (Option Value)}
    {f_is_layout : Addr} {oc_is_layout kV_is_layout dc_is_layout pm_is_layout cd_is_layout ct_is_layout : Value} {od_is_layout an_is_layout : Option Addr} {sl_is_layout : Array (Option Value)}
    {f_low_high : Addr} {oc_low_high kV_low_high dc_low_high pm_low_high cd_low_high ct_low_high : Value} {od_low_high an_low_high : Option Addr} {sl_low_high : Array (Option Value)}
    {f_are_places : Addr} {oc_are_places kV_are_places dc_are_places pm_are_places cd_are_places ct_are_places : Value} {od_are_places an_are_places : Option Addr} {sl_are_places : Array (Option Value)}
    {f_Placement___init__ : Addr} {oc_Placement___init__ kV_Placement___init__ dc_Placement___init__ pm_Placement___init__ cd_Placement___init__ ct_Placement___init__ : Value} {od_Placement___init__ an_Placement___init__ : Option Addr} {sl_Placement___init__ : Array (Option Value)}
    {f_Placement_apart : Addr} {oc_Placement_apart kV_Placement_apart dc_Placement_apart pm_Placement_apart cd_Placement_apart ct_Placement_apart : Value} {od_Placement_apart an_Placement_apart : Option Addr} {sl_Placement_apart : Array (Option Value)}
    {p_Placement_apart : Addr} {rest_Placement_apart : List Value}
    {f_Placement_size : Addr} {oc_Placement_size kV_Placement_size dc_Placement_size pm_Placement_size cd_Placement_size ct_Placement_size : Value} {od_Placement_size an_Placement_size : Option Addr} {sl_Placement_size : Array (Option Value)}
    {p_Placement_size : Addr} {rest_Placement_size : List Value}
    {f_Placement___eq__ : Addr} {oc_Placement___eq__ kV_Placement___eq__ dc_Placement___eq__ pm_Placement___eq__ cd_Placement___eq__ ct_Placement___eq__ : Value} {od_Placement___eq__ an_Placement___eq__ : Option Addr} {sl_Placement___eq__ : Array (Option Value)}
    {f_Placement_moved : Addr} {oc_Placement_moved kV_Placement_moved dc_Placement_moved pm_Placement_moved cd_Placement_moved ct_Placement_moved : Value} {od_Placement_moved an_Placement_moved : Option Addr} {sl_Placement_moved : Array (Option Value)}
    {f__law_pick : Addr} {oc__law_pick kV__law_pick dc__law_pick pm__law_pick cd__law_pick ct__law_pick : Value} {od__law_pick an__law_pick : Option Addr} {sl__law_pick : Array (Option Value)}
    {f__law_names : Addr} {oc__law_names kV__law_names dc__law_names pm__law_names cd__law_names ct__law_names : Value} {od__law_names an__law_names : Option Addr} {sl__law_names : Array (Option Value)}
    {f__law_size : Addr} {oc__law_size kV__law_size dc__law_size pm__law_size cd__law_size ct__law_size : Value} {od__law_size an__law_size : Option Addr} {sl__law_size : Array (Option Value)}
    {f__law_program : Addr} {oc__law_program kV__law_program dc__law_program pm__law_program cd__law_program ct__law_program : Value} {od__law_program an__law_program : Option Addr} {sl__law_program : Array (Option Value)}
    {f__law_great : Addr} {oc__law_great kV__law_great dc__law_great pm__law_great cd__law_great ct__law_great : Value} {od__law_great an__law_great : Option Addr} {sl__law_great : Array (Option Value)}
    {f__law_places : Addr} {oc__law_places kV__law_places dc__law_places pm__law_places cd__law_places ct__law_places : Value} {od__law_places an__law_places : Option Addr} {sl__law_places : Array (Option Value)}
    {f__law_turned : Addr} {oc__law_turned kV__law_turned dc__law_turned pm__law_turned cd__law_turned ct__law_turned : Value} {od__law_turned an__law_turned : Option Addr} {sl__law_turned : Array (Option Value)}
    {f__law_placement : Addr} {oc__law_placement kV__law_placement dc__law_placement pm__law_placement cd__law_placement ct__law_placement : Value} {od__law_placement an__law_placement : Option Addr} {sl__law_placement : Array (Option Value)}
    {f__law_moved : Addr} {oc__law_moved kV__law_moved dc__law_moved pm__law_moved cd__law_moved ct__law_moved : Value} {od__law_moved an__law_moved : Option Addr} {sl__law_moved : Array (Option Value)}
    {f__law_pairs : Addr} {oc__law_pairs kV__law_pairs dc__law_pairs pm__law_pairs cd__law_pairs ct__law_pairs : Value} {od__law_pairs an__law_pairs : Option Addr} {sl__law_pairs : Array (Option Value)}
    {f__law_right : Addr} {oc__law_right kV__law_right dc__law_right pm__law_right cd__law_right ct__law_right : Value} {od__law_right an__law_right : Option Addr} {sl__law_right : Array (Option Value)}
    {f__law_apart_right : Addr} {oc__law_apart_right kV__law_apart_right dc__law_apart_right pm__law_apart_right cd__law_apart_right ct__law_apart_right : Value} {od__law_apart_right an__law_apart_right : Option Addr} {sl__law_apart_right : Array (Option Value)}
    {f_law : Addr} {oc_law kV_law dc_law pm_law cd_law ct_law : Value} {od_law an_law : Option Addr} {sl_law : Array (Option Value)}
    {t1 : Tok}
    {t2 : Tok}
    {t3 : Tok}
    {t4 : Tok}
    {t5 : Tok}
    {t6 : Tok}
    {t7 : Tok}
    {t8 : Tok}
    {te CN : Addr}
    {tm : Tok}
    {dte : Option Addr} {nte : Nat} {ste : Array (Option Value)}
    (X : K.In h) (G : h.Ns mainGlobals mg) (hfa : mg "law" = some (.ref fa))
    (q1_Program : PySem.W.nsIn K mainGlobals "Program" = some (some (.ref CP)))
    (q2_Program : PySem.W.plainGet K CP Str.empty = true)
    (q3_Program : PySem.W.hasDictIn K CP = true)
    (q4_Program : PySem.W.plainOver K CP = true)
    (q5_Program : PySem.W.findIn K (.ref CP) "__setattr__" = some (some (.builtin "object.__setattr__")))
    (q6_Program : PySem.W.makesIn K CP = true)
    (q7_Program : PySem.W.keepIn K (.ref CP) = true)
    (q1_Placement : PySem.W.nsIn K mainGlobals "Placement" = some (some (.ref CL)))
    (q2_Placement : PySem.W.plainGet K CL Str.empty = true)
    (q3_Placement : PySem.W.hasDictIn K CL = true)
    (q4_Placement : PySem.W.plainOver K CL = true)
    (q5_Placement : PySem.W.findIn K (.ref CL) "__setattr__" = some (some (.builtin "object.__setattr__")))
    (q6_Placement : PySem.W.makesIn K CL = true)
    (q7_Placement : PySem.W.keepIn K (.ref CL) = true)
    (qn_Program : PySem.W.findIn K (.ref CP) "__ne__" = some (some (.builtin "object.__ne__")))
    (qo_Program : PySem.W.mroIn K CP (.type "object") = some true)
    (qn_Placement : PySem.W.findIn K (.ref CL) "__ne__" = some (some (.builtin "object.__ne__")))
    (qo_Placement : PySem.W.mroIn K CL (.type "object") = some true)
    (a__law_deck : PySem.W.nsIn K mainGlobals "_law_deck" = some (some (.ref f__law_deck)))
    (l__law_deck : K.lookup f__law_deck = some ⟨oc__law_deck, od__law_deck, .func (PySem.W.fnOf "_law_deck" "_law_deck" (defArgs (topS 65)) (defBody (topS 65)) (defScope (topS 65)) .none kV__law_deck dc__law_deck pm__law_deck an__law_deck cd__law_deck ct__law_deck), sl__law_deck⟩)
    (c__law_deck : PySem.W.codeIn K cd__law_deck "_law_deck" = true)
    (k__law_deck : PySem.W.keepIn K (.ref f__law_deck) = true)
    (a__law_draw : PySem.W.nsIn K mainGlobals "_law_draw" = some (some (.ref f__law_draw)))
    (l__law_draw : K.lookup f__law_draw = some ⟨oc__law_draw, od__law_draw, .func (PySem.W.fnOf "_law_draw" "_law_draw" (defArgs (topS 66)) (defBody (topS 66)) (defScope (topS 66)) .none kV__law_draw dc__law_draw pm__law_draw an__law_draw cd__law_draw ct__law_draw), sl__law_draw⟩)
    (c__law_draw : PySem.W.codeIn K cd__law_draw "_law_draw" = true)
    (k__law_draw : PySem.W.keepIn K (.ref f__law_draw) = true)
    (a_is_integer : PySem.W.nsIn K mainGlobals "is_integer" = some (some (.ref f_is_integer)))
    (l_is_integer : K.lookup f_is_integer = some ⟨oc_is_integer, od_is_integer, .func (PySem.W.fnOf "is_integer" "is_integer" (defArgs (topS 38)) (defBody (topS 38)) (defScope (topS 38)) .none kV_is_integer dc_is_integer pm_is_integer an_is_integer cd_is_integer ct_is_integer), sl_is_integer⟩)
    (c_is_integer : PySem.W.codeIn K cd_is_integer "is_integer" = true)
    (k_is_integer : PySem.W.keepIn K (.ref f_is_integer) = true)
    (a_is_name : PySem.W.nsIn K mainGlobals "is_name" = some (some (.ref f_is_name)))
    (l_is_name : K.lookup f_is_name = some ⟨oc_is_name, od_is_name, .func (PySem.W.fnOf "is_name" "is_name" (defArgs (topS 39)) (defBody (topS 39)) (defScope (topS 39)) .none kV_is_name dc_is_name pm_is_name an_is_name cd_is_name ct_is_name), sl_is_name⟩)
    (c_is_name : PySem.W.codeIn K cd_is_name "is_name" = true)
    (k_is_name : PySem.W.keepIn K (.ref f_is_name) = true)
    (a_is_amount : PySem.W.nsIn K mainGlobals "is_amount" = some (some (.ref f_is_amount)))
    (l_is_amount : K.lookup f_is_amount = some ⟨oc_is_amount, od_is_amount, .func (PySem.W.fnOf "is_amount" "is_amount" (defArgs (topS 40)) (defBody (topS 40)) (defScope (topS 40)) .none kV_is_amount dc_is_amount pm_is_amount an_is_amount cd_is_amount ct_is_amount), sl_is_amount⟩)
    (c_is_amount : PySem.W.codeIn K cd_is_amount "is_amount" = true)
    (k_is_amount : PySem.W.keepIn K (.ref f_is_amount) = true)
    (a_are_ascending : PySem.W.nsIn K mainGlobals "are_ascending" = some (some (.ref f_are_ascending)))
    (l_are_ascending : K.lookup f_are_ascending = some ⟨oc_are_ascending, od_are_ascending, .func (PySem.W.fnOf "are_ascending" "are_ascending" (defArgs (topS 41)) (defBody (topS 41)) (defScope (topS 41)) .none kV_are_ascending dc_are_ascending pm_are_ascending an_are_ascending cd_are_ascending ct_are_ascending), sl_are_ascending⟩)
    (c_are_ascending : PySem.W.codeIn K cd_are_ascending "are_ascending" = true)
    (k_are_ascending : PySem.W.keepIn K (.ref f_are_ascending) = true)
    (a_are_arrays : PySem.W.nsIn K mainGlobals "are_arrays" = some (some (.ref f_are_arrays)))
    (l_are_arrays : K.lookup f_are_arrays = some ⟨oc_are_arrays, od_are_arrays, .func (PySem.W.fnOf "are_arrays" "are_arrays" (defArgs (topS 42)) (defBody (topS 42)) (defScope (topS 42)) .none kV_are_arrays dc_are_arrays pm_are_arrays an_are_arrays cd_are_arrays ct_are_arrays), sl_are_arrays⟩)
    (c_are_arrays : PySem.W.codeIn K cd_are_arrays "are_arrays" = true)
    (k_are_arrays : PySem.W.keepIn K (.ref f_are_arrays) = true)
    (a_is_access : PySem.W.nsIn K mainGlobals "is_access" = some (some (.ref f_is_access)))
    (l_is_access : K.lookup f_is_access = some ⟨oc_is_access, od_is_access, .func (PySem.W.fnOf "is_access" "is_access" (defArgs (topS 43)) (defBody (topS 43)) (defScope (topS 43)) .none kV_is_access dc_is_access pm_is_access an_is_access cd_is_access ct_is_access), sl_is_access⟩)
    (c_is_access : PySem.W.codeIn K cd_is_access "is_access" = true)
    (k_is_access : PySem.W.keepIn K (.ref f_is_access) = true)
    (a_is_statement : PySem.W.nsIn K mainGlobals "is_statement" = some (some (.ref f_is_statement)))
    (l_is_statement : K.lookup f_is_statement = some ⟨oc_is_statement, od_is_statement, .func (PySem.W.fnOf "is_statement" "is_statement" (defArgs (topS 44)) (defBody (topS 44)) (defScope (topS 44)) .none kV_is_statement dc_is_statement pm_is_statement an_is_statement cd_is_statement ct_is_statement), sl_is_statement⟩)
    (c_is_statement : PySem.W.codeIn K cd_is_statement "is_statement" = true)
    (k_is_statement : PySem.W.keepIn K (.ref f_is_statement) = true)
    (a_are_loops : PySem.W.nsIn K mainGlobals "are_loops" = some (some (.ref f_are_loops)))
    (l_are_loops : K.lookup f_are_loops = some ⟨oc_are_loops, od_are_loops, .func (PySem.W.fnOf "are_loops" "are_loops" (defArgs (topS 45)) (defBody (topS 45)) (defScope (topS 45)) .none kV_are_loops dc_are_loops pm_are_loops an_are_loops cd_are_loops ct_are_loops), sl_are_loops⟩)
    (c_are_loops : PySem.W.codeIn K cd_are_loops "are_loops" = true)
    (k_are_loops : PySem.W.keepIn K (.ref f_are_loops) = true)
    (a_are_outputs : PySem.W.nsIn K mainGlobals "are_outputs" = some (some (.ref f_are_outputs)))
    (l_are_outputs : K.lookup f_are_outputs = some ⟨oc_are_outputs, od_are_outputs, .func (PySem.W.fnOf "are_outputs" "are_outputs" (defArgs (topS 46)) (defBody (topS 46)) (defScope (topS 46)) .none kV_are_outputs dc_are_outputs pm_are_outputs an_are_outputs cd_are_outputs ct_are_outputs), sl_are_outputs⟩)
    (c_are_outputs : PySem.W.codeIn K cd_are_outputs "are_outputs" = true)
    (k_are_outputs : PySem.W.keepIn K (.ref f_are_outputs) = true)
    (a_all_writers : PySem.W.nsIn K mainGlobals "all_writers" = some (some (.ref f_all_writers)))
    (l_all_writers : K.lookup f_all_writers = some ⟨oc_all_writers, od_all_writers, .func (PySem.W.fnOf "all_writers" "all_writers" (defArgs (topS 47)) (defBody (topS 47)) (defScope (topS 47)) .none kV_all_writers dc_all_writers pm_all_writers an_all_writers cd_all_writers ct_all_writers), sl_all_writers⟩)
    (c_all_writers : PySem.W.codeIn K cd_all_writers "all_writers" = true)
    (k_all_writers : PySem.W.keepIn K (.ref f_all_writers) = true)
    (a_all_reads : PySem.W.nsIn K mainGlobals "all_reads" = some (some (.ref f_all_reads)))
    (l_all_reads : K.lookup f_all_reads = some ⟨oc_all_reads, od_all_reads, .func (PySem.W.fnOf "all_reads" "all_reads" (defArgs (topS 48)) (defBody (topS 48)) (defScope (topS 48)) .none kV_all_reads dc_all_reads pm_all_reads an_all_reads cd_all_reads ct_all_reads), sl_all_reads⟩)
    (c_all_reads : PySem.W.codeIn K cd_all_reads "all_reads" = true)
    (k_all_reads : PySem.W.keepIn K (.ref f_all_reads) = true)
    (a_first_out : PySem.W.nsIn K mainGlobals "first_out" = some (some (.ref f_first_out)))
    (l_first_out : K.lookup f_first_out = some ⟨oc_first_out, od_first_out, .func (PySem.W.fnOf "first_out" "first_out" (defArgs (topS 25)) (defBody (topS 25)) (defScope (topS 25)) .none kV_first_out dc_first_out pm_first_out an_first_out cd_first_out ct_first_out), sl_first_out⟩)
    (c_first_out : PySem.W.codeIn K cd_first_out "first_out" = true)
    (k_first_out : PySem.W.keepIn K (.ref f_first_out) = true)
    (a_at_most : PySem.W.nsIn K mainGlobals "at_most" = some (some (.ref f_at_most)))
    (l_at_most : K.lookup f_at_most = some ⟨oc_at_most, od_at_most, .func (PySem.W.fnOf "at_most" "at_most" (defArgs (topS 24)) (defBody (topS 24)) (defScope (topS 24)) .none kV_at_most dc_at_most pm_at_most an_at_most cd_at_most ct_at_most), sl_at_most⟩)
    (c_at_most : PySem.W.codeIn K cd_at_most "at_most" = true)
    (k_at_most : PySem.W.keepIn K (.ref f_at_most) = true)
    (a_last_step : PySem.W.nsIn K mainGlobals "last_step" = some (some (.ref f_last_step)))
    (l_last_step : K.lookup f_last_step = some ⟨oc_last_step, od_last_step, .func (PySem.W.fnOf "last_step" "last_step" (defArgs (topS 26)) (defBody (topS 26)) (defScope (topS 26)) .none kV_last_step dc_last_step pm_last_step an_last_step cd_last_step ct_last_step), sl_last_step⟩)
    (c_last_step : PySem.W.codeIn K cd_last_step "last_step" = true)
    (k_last_step : PySem.W.keepIn K (.ref f_last_step) = true)
    (a_meeting : PySem.W.nsIn K mainGlobals "meeting" = some (some (.ref f_meeting)))
    (l_meeting : K.lookup f_meeting = some ⟨oc_meeting, od_meeting, .func (PySem.W.fnOf "meeting" "meeting" (defArgs (topS 27)) (defBody (topS 27)) (defScope (topS 27)) .none kV_meeting dc_meeting pm_meeting an_meeting cd_meeting ct_meeting), sl_meeting⟩)
    (c_meeting : PySem.W.codeIn K cd_meeting "meeting" = true)
    (k_meeting : PySem.W.keepIn K (.ref f_meeting) = true)
    (a_first_met : PySem.W.nsIn K mainGlobals "first_met" = some (some (.ref f_first_met)))
    (l_first_met : K.lookup f_first_met = some ⟨oc_first_met, od_first_met, .func (PySem.W.fnOf "first_met" "first_met" (defArgs (topS 29)) (defBody (topS 29)) (defScope (topS 29)) .none kV_first_met dc_first_met pm_first_met an_first_met cd_first_met ct_first_met), sl_first_met⟩)
    (c_first_met : PySem.W.codeIn K cd_first_met "first_met" = true)
    (k_first_met : PySem.W.keepIn K (.ref f_first_met) = true)
    (a_Program_inputs : PySem.W.findIn K (.ref CP) "inputs" = some (some (.ref p_Program_inputs)))
    (g_Program_inputs : PySem.W.specialIn K (.ref p_Program_inputs) "__get__" = some (some (.builtin "property.__get__")))
    (t_Program_inputs : PySem.W.takesIn K (.ref p_Program_inputs) = some true)
    (r_Program_inputs : PySem.W.recIn K p_Program_inputs "property" = some (.ref f_Program_inputs :: rest_Program_inputs))
    (l_Program_inputs : K.lookup f_Program_inputs = some ⟨oc_Program_inputs, od_Program_inputs, .func (PySem.W.fnOf "inputs" "Program.inputs" (defArgs (inClass (topS 53) 4)) (defBody (inClass (topS 53) 4)) (defScope (inClass (topS 53) 4)) .none kV_Program_inputs dc_Program_inputs pm_Program_inputs an_Program_inputs cd_Program_inputs ct_Program_inputs), sl_Program_inputs⟩)
    (c_Program_inputs : PySem.W.codeIn K cd_Program_inputs "Program.inputs" = true)
    (k_Program_inputs : PySem.W.keepIn K (.ref f_Program_inputs) = true)
    (a_Program_size_of : PySem.W.findIn K (.ref CP) "size_of" = some (some (.ref f_Program_size_of)))
    (i_Program_size_of : PySem.W.isFn K (.ref f_Program_size_of) = true)
    (l_Program_size_of : K.lookup f_Program_size_of = some ⟨oc_Program_size_of, od_Program_size_of, .func (PySem.W.fnOf "size_of" "Program.size_of" (defArgs (inClass (topS 53) 8)) (defBody (inClass (topS 53) 8)) (defScope (inClass (topS 53) 8)) .none kV_Program_size_of dc_Program_size_of pm_Program_size_of an_Program_size_of cd_Program_size_of ct_Program_size_of), sl_Program_size_of⟩)
    (c_Program_size_of : PySem.W.codeIn K cd_Program_size_of "Program.size_of" = true)
    (k_Program_size_of : PySem.W.keepIn K (.ref f_Program_size_of) = true)
    (a_Program___contains__ : PySem.W.findIn K (.ref CP) "__contains__" = some (some (.ref f_Program___contains__)))
    (i_Program___contains__ : PySem.W.isFn K (.ref f_Program___contains__) = true)
    (l_Program___contains__ : K.lookup f_Program___contains__ = some ⟨oc_Program___contains__, od_Program___contains__, .func (PySem.W.fnOf "__contains__" "Program.__contains__" (defArgs (inClass (topS 53) 6)) (defBody (inClass (topS 53) 6)) (defScope (inClass (topS 53) 6)) .none kV_Program___contains__ dc_Program___contains__ pm_Program___contains__ an_Program___contains__ cd_Program___contains__ ct_Program___contains__), sl_Program___contains__⟩)
    (c_Program___contains__ : PySem.W.codeIn K cd_Program___contains__ "Program.__contains__" = true)
    (k_Program___contains__ : PySem.W.keepIn K (.ref f_Program___contains__) = true)
    (a_check_bounds : PySem.W.nsIn K mainGlobals "check_bounds" = some (some (.ref f_check_bounds)))
    (l_check_bounds : K.lookup f_check_bounds = some ⟨oc_check_bounds, od_check_bounds, .func (PySem.W.fnOf "check_bounds" "check_bounds" (defArgs (topS 50)) (defBody (topS 50)) (defScope (topS 50)) .none kV_check_bounds dc_check_bounds pm_check_bounds an_check_bounds cd_check_bounds ct_check_bounds), sl_check_bounds⟩)
    (c_check_bounds : PySem.W.codeIn K cd_check_bounds "check_bounds" = true)
    (k_check_bounds : PySem.W.keepIn K (.ref f_check_bounds) = true)
    (a_check_writes : PySem.W.nsIn K mainGlobals "check_writes" = some (some (.ref f_check_writes)))
    (l_check_writes : K.lookup f_check_writes = some ⟨oc_check_writes, od_check_writes, .func (PySem.W.fnOf "check_writes" "check_writes" (defArgs (topS 51)) (defBody (topS 51)) (defScope (topS 51)) .none kV_check_writes dc_check_writes pm_check_writes an_check_writes cd_check_writes ct_check_writes), sl_check_writes⟩)
    (c_check_writes : PySem.W.codeIn K cd_check_writes "check_writes" = true)
    (k_check_writes : PySem.W.keepIn K (.ref f_check_writes) = true)
    (a_check_uses : PySem.W.nsIn K mainGlobals "check_uses" = some (some (.ref f_check_uses)))
    (l_check_uses : K.lookup f_check_uses = some ⟨oc_check_uses, od_check_uses, .func (PySem.W.fnOf "check_uses" "check_uses" (defArgs (topS 52)) (defBody (topS 52)) (defScope (topS 52)) .none kV_check_uses dc_check_uses pm_check_uses an_check_uses cd_check_uses ct_check_uses), sl_check_uses⟩)
    (c_check_uses : PySem.W.codeIn K cd_check_uses "check_uses" = true)
    (k_check_uses : PySem.W.keepIn K (.ref f_check_uses) = true)
    (a_Program___init__ : PySem.W.findIn K (.ref CP) "__init__" = some (some (.ref f_Program___init__)))
    (i_Program___init__ : PySem.W.isFn K (.ref f_Program___init__) = true)
    (l_Program___init__ : K.lookup f_Program___init__ = some ⟨oc_Program___init__, od_Program___init__, .func (PySem.W.fnOf "__init__" "Program.__init__" (defArgs (inClass (topS 53) 1)) (defBody (inClass (topS 53) 1)) (defScope (inClass (topS 53) 1)) (.ref T_Program___init__) kV_Program___init__ dc_Program___init__ pm_Program___init__ an_Program___init__ cd_Program___init__ ct_Program___init__), sl_Program___init__⟩)
    (c_Program___init__ : PySem.W.codeIn K cd_Program___init__ "Program.__init__" = true)
    (k_Program___init__ : PySem.W.keepIn K (.ref f_Program___init__) = true)
    (m_Program___init__ : K.lookup T_Program___init__ = some ⟨xT_Program___init__, dT_Program___init__, .seq #[.ref te] nT_Program___init__, sT_Program___init__⟩)
    (a_Program___eq__ : PySem.W.findIn K (.ref CP) "__eq__" = some (some (.ref f_Program___eq__)))
    (i_Program___eq__ : PySem.W.isFn K (.ref f_Program___eq__) = true)
    (l_Program___eq__ : K.lookup f_Program___eq__ = some ⟨oc_Program___eq__, od_Program___eq__, .func (PySem.W.fnOf "__eq__" "Program.__eq__" (defArgs (inClass (topS 53) 7)) (defBody (inClass (topS 53) 7)) (defScope (inClass (topS 53) 7)) .none kV_Program___eq__ dc_Program___eq__ pm_Program___eq__ an_Program___eq__ cd_Program___eq__ ct_Program___eq__), sl_Program___eq__⟩)
    (c_Program___eq__ : PySem.W.codeIn K cd_Program___eq__ "Program.__eq__" = true)
    (k_Program___eq__ : PySem.W.keepIn K (.ref f_Program___eq__) = true)
    (a_is_layout : PySem.W.nsIn K mainGlobals "is_layout" = some (some (.ref f_is_layout)))
    (l_is_layout : K.lookup f_is_layout = some ⟨oc_is_layout, od_is_layout, .func (PySem.W.fnOf "is_layout" "is_layout" (defArgs (topS 56)) (defBody (topS 56)) (defScope (topS 56)) .none kV_is_layout dc_is_layout pm_is_layout an_is_layout cd_is_layout ct_is_layout), sl_is_layout⟩)
    (c_is_layout : PySem.W.codeIn K cd_is_layout "is_layout" = true)
    (k_is_layout : PySem.W.keepIn K (.ref f_is_layout) = true)
    (a_low_high : PySem.W.nsIn K mainGlobals "low_high" = some (some (.ref f_low_high)))
    (l_low_high : K.lookup f_low_high = some ⟨oc_low_high, od_low_high, .func (PySem.W.fnOf "low_high" "low_high" (defArgs (topS 57)) (defBody (topS 57)) (defScope (topS 57)) .none kV_low_high dc_low_high pm_low_high an_low_high cd_low_high ct_low_high), sl_low_high⟩)
    (c_low_high : PySem.W.codeIn K cd_low_high "low_high" = true)
    (k_low_high : PySem.W.keepIn K (.ref f_low_high) = true)
    (a_are_places : PySem.W.nsIn K mainGlobals "are_places" = some (some (.ref f_are_places)))
    (l_are_places : K.lookup f_are_places = some ⟨oc_are_places, od_are_places, .func (PySem.W.fnOf "are_places" "are_places" (defArgs (topS 59)) (defBody (topS 59)) (defScope (topS 59)) .none kV_are_places dc_are_places pm_are_places an_are_places cd_are_places ct_are_places), sl_are_places⟩)
    (c_are_places : PySem.W.codeIn K cd_are_places "are_places" = true)
    (k_are_places : PySem.W.keepIn K (.ref f_are_places) = true)
    (a_Placement___init__ : PySem.W.findIn K (.ref CL) "__init__" = some (some (.ref f_Placement___init__)))
    (i_Placement___init__ : PySem.W.isFn K (.ref f_Placement___init__) = true)
    (l_Placement___init__ : K.lookup f_Placement___init__ = some ⟨oc_Placement___init__, od_Placement___init__, .func (PySem.W.fnOf "__init__" "Placement.__init__" (defArgs (inClass (topS 63) 0)) (defBody (inClass (topS 63) 0)) (defScope (inClass (topS 63) 0)) .none kV_Placement___init__ dc_Placement___init__ pm_Placement___init__ an_Placement___init__ cd_Placement___init__ ct_Placement___init__), sl_Placement___init__⟩)
    (c_Placement___init__ : PySem.W.codeIn K cd_Placement___init__ "Placement.__init__" = true)
    (k_Placement___init__ : PySem.W.keepIn K (.ref f_Placement___init__) = true)
    (a_Placement_apart : PySem.W.findCls K (.ref CL) (.type "type") "apart" = some (.get (.builtin "classmethod.__get__") (.ref p_Placement_apart) .none (.ref CL)))
    (r_Placement_apart : PySem.W.recIn K p_Placement_apart "classmethod" = some (.ref f_Placement_apart :: rest_Placement_apart))
    (j_Placement_apart : PySem.W.fnIn K f_Placement_apart = true)
    (rd_Placement_apart : PySem.W.readsIn K CL (.type "type") = true)
    (rg_Placement_apart : PySem.W.specialIn K (.ref CL) "__getattribute__" = some (some (.builtin "type.__getattribute__")))
    (l_Placement_apart : K.lookup f_Placement_apart = some ⟨oc_Placement_apart, od_Placement_apart, .func (PySem.W.fnOf "apart" "Placement.apart" (defArgs (inClass (topS 63) 1)) (defBody (inClass (topS 63) 1)) (defScope (inClass (topS 63) 1)) .none kV_Placement_apart dc_Placement_apart pm_Placement_apart an_Placement_apart cd_Placement_apart ct_Placement_apart), sl_Placement_apart⟩)
    (c_Placement_apart : PySem.W.codeIn K cd_Placement_apart "Placement.apart" = true)
    (k_Placement_apart : PySem.W.keepIn K (.ref f_Placement_apart) = true)
    (a_Placement_size : PySem.W.findIn K (.ref CL) "size" = some (some (.ref p_Placement_size)))
    (g_Placement_size : PySem.W.specialIn K (.ref p_Placement_size) "__get__" = some (some (.builtin "property.__get__")))
    (t_Placement_size : PySem.W.takesIn K (.ref p_Placement_size) = some true)
    (r_Placement_size : PySem.W.recIn K p_Placement_size "property" = some (.ref f_Placement_size :: rest_Placement_size))
    (l_Placement_size : K.lookup f_Placement_size = some ⟨oc_Placement_size, od_Placement_size, .func (PySem.W.fnOf "size" "Placement.size" (defArgs (inClass (topS 63) 3)) (defBody (inClass (topS 63) 3)) (defScope (inClass (topS 63) 3)) .none kV_Placement_size dc_Placement_size pm_Placement_size an_Placement_size cd_Placement_size ct_Placement_size), sl_Placement_size⟩)
    (c_Placement_size : PySem.W.codeIn K cd_Placement_size "Placement.size" = true)
    (k_Placement_size : PySem.W.keepIn K (.ref f_Placement_size) = true)
    (a_Placement___eq__ : PySem.W.findIn K (.ref CL) "__eq__" = some (some (.ref f_Placement___eq__)))
    (i_Placement___eq__ : PySem.W.isFn K (.ref f_Placement___eq__) = true)
    (l_Placement___eq__ : K.lookup f_Placement___eq__ = some ⟨oc_Placement___eq__, od_Placement___eq__, .func (PySem.W.fnOf "__eq__" "Placement.__eq__" (defArgs (inClass (topS 63) 5)) (defBody (inClass (topS 63) 5)) (defScope (inClass (topS 63) 5)) .none kV_Placement___eq__ dc_Placement___eq__ pm_Placement___eq__ an_Placement___eq__ cd_Placement___eq__ ct_Placement___eq__), sl_Placement___eq__⟩)
    (c_Placement___eq__ : PySem.W.codeIn K cd_Placement___eq__ "Placement.__eq__" = true)
    (k_Placement___eq__ : PySem.W.keepIn K (.ref f_Placement___eq__) = true)
    (a_Placement_moved : PySem.W.findIn K (.ref CL) "moved" = some (some (.ref f_Placement_moved)))
    (i_Placement_moved : PySem.W.isFn K (.ref f_Placement_moved) = true)
    (l_Placement_moved : K.lookup f_Placement_moved = some ⟨oc_Placement_moved, od_Placement_moved, .func (PySem.W.fnOf "moved" "Placement.moved" (defArgs (inClass (topS 63) 9)) (defBody (inClass (topS 63) 9)) (defScope (inClass (topS 63) 9)) .none kV_Placement_moved dc_Placement_moved pm_Placement_moved an_Placement_moved cd_Placement_moved ct_Placement_moved), sl_Placement_moved⟩)
    (c_Placement_moved : PySem.W.codeIn K cd_Placement_moved "Placement.moved" = true)
    (k_Placement_moved : PySem.W.keepIn K (.ref f_Placement_moved) = true)
    (a__law_pick : PySem.W.nsIn K mainGlobals "_law_pick" = some (some (.ref f__law_pick)))
    (l__law_pick : K.lookup f__law_pick = some ⟨oc__law_pick, od__law_pick, .func (PySem.W.fnOf "_law_pick" "_law_pick" (defArgs (topS 67)) (defBody (topS 67)) (defScope (topS 67)) .none kV__law_pick dc__law_pick pm__law_pick an__law_pick cd__law_pick ct__law_pick), sl__law_pick⟩)
    (c__law_pick : PySem.W.codeIn K cd__law_pick "_law_pick" = true)
    (k__law_pick : PySem.W.keepIn K (.ref f__law_pick) = true)
    (a__law_names : PySem.W.nsIn K mainGlobals "_law_names" = some (some (.ref f__law_names)))
    (l__law_names : K.lookup f__law_names = some ⟨oc__law_names, od__law_names, .func (PySem.W.fnOf "_law_names" "_law_names" (defArgs (topS 68)) (defBody (topS 68)) (defScope (topS 68)) .none kV__law_names dc__law_names pm__law_names an__law_names cd__law_names ct__law_names), sl__law_names⟩)
    (c__law_names : PySem.W.codeIn K cd__law_names "_law_names" = true)
    (k__law_names : PySem.W.keepIn K (.ref f__law_names) = true)
    (a__law_size : PySem.W.nsIn K mainGlobals "_law_size" = some (some (.ref f__law_size)))
    (l__law_size : K.lookup f__law_size = some ⟨oc__law_size, od__law_size, .func (PySem.W.fnOf "_law_size" "_law_size" (defArgs (topS 69)) (defBody (topS 69)) (defScope (topS 69)) .none kV__law_size dc__law_size pm__law_size an__law_size cd__law_size ct__law_size), sl__law_size⟩)
    (c__law_size : PySem.W.codeIn K cd__law_size "_law_size" = true)
    (k__law_size : PySem.W.keepIn K (.ref f__law_size) = true)
    (a__law_program : PySem.W.nsIn K mainGlobals "_law_program" = some (some (.ref f__law_program)))
    (l__law_program : K.lookup f__law_program = some ⟨oc__law_program, od__law_program, .func (PySem.W.fnOf "_law_program" "_law_program" (defArgs (topS 70)) (defBody (topS 70)) (defScope (topS 70)) .none kV__law_program dc__law_program pm__law_program an__law_program cd__law_program ct__law_program), sl__law_program⟩)
    (c__law_program : PySem.W.codeIn K cd__law_program "_law_program" = true)
    (k__law_program : PySem.W.keepIn K (.ref f__law_program) = true)
    (a__law_great : PySem.W.nsIn K mainGlobals "_law_great" = some (some (.ref f__law_great)))
    (l__law_great : K.lookup f__law_great = some ⟨oc__law_great, od__law_great, .func (PySem.W.fnOf "_law_great" "_law_great" (defArgs (topS 71)) (defBody (topS 71)) (defScope (topS 71)) .none kV__law_great dc__law_great pm__law_great an__law_great cd__law_great ct__law_great), sl__law_great⟩)
    (c__law_great : PySem.W.codeIn K cd__law_great "_law_great" = true)
    (k__law_great : PySem.W.keepIn K (.ref f__law_great) = true)
    (a__law_places : PySem.W.nsIn K mainGlobals "_law_places" = some (some (.ref f__law_places)))
    (l__law_places : K.lookup f__law_places = some ⟨oc__law_places, od__law_places, .func (PySem.W.fnOf "_law_places" "_law_places" (defArgs (topS 72)) (defBody (topS 72)) (defScope (topS 72)) .none kV__law_places dc__law_places pm__law_places an__law_places cd__law_places ct__law_places), sl__law_places⟩)
    (c__law_places : PySem.W.codeIn K cd__law_places "_law_places" = true)
    (k__law_places : PySem.W.keepIn K (.ref f__law_places) = true)
    (a__law_turned : PySem.W.nsIn K mainGlobals "_law_turned" = some (some (.ref f__law_turned)))
    (l__law_turned : K.lookup f__law_turned = some ⟨oc__law_turned, od__law_turned, .func (PySem.W.fnOf "_law_turned" "_law_turned" (defArgs (topS 73)) (defBody (topS 73)) (defScope (topS 73)) .none kV__law_turned dc__law_turned pm__law_turned an__law_turned cd__law_turned ct__law_turned), sl__law_turned⟩)
    (c__law_turned : PySem.W.codeIn K cd__law_turned "_law_turned" = true)
    (k__law_turned : PySem.W.keepIn K (.ref f__law_turned) = true)
    (a__law_placement : PySem.W.nsIn K mainGlobals "_law_placement" = some (some (.ref f__law_placement)))
    (l__law_placement : K.lookup f__law_placement = some ⟨oc__law_placement, od__law_placement, .func (PySem.W.fnOf "_law_placement" "_law_placement" (defArgs (topS 74)) (defBody (topS 74)) (defScope (topS 74)) .none kV__law_placement dc__law_placement pm__law_placement an__law_placement cd__law_placement ct__law_placement), sl__law_placement⟩)
    (c__law_placement : PySem.W.codeIn K cd__law_placement "_law_placement" = true)
    (k__law_placement : PySem.W.keepIn K (.ref f__law_placement) = true)
    (a__law_moved : PySem.W.nsIn K mainGlobals "_law_moved" = some (some (.ref f__law_moved)))
    (l__law_moved : K.lookup f__law_moved = some ⟨oc__law_moved, od__law_moved, .func (PySem.W.fnOf "_law_moved" "_law_moved" (defArgs (topS 75)) (defBody (topS 75)) (defScope (topS 75)) .none kV__law_moved dc__law_moved pm__law_moved an__law_moved cd__law_moved ct__law_moved), sl__law_moved⟩)
    (c__law_moved : PySem.W.codeIn K cd__law_moved "_law_moved" = true)
    (k__law_moved : PySem.W.keepIn K (.ref f__law_moved) = true)
    (a__law_pairs : PySem.W.nsIn K mainGlobals "_law_pairs" = some (some (.ref f__law_pairs)))
    (l__law_pairs : K.lookup f__law_pairs = some ⟨oc__law_pairs, od__law_pairs, .func (PySem.W.fnOf "_law_pairs" "_law_pairs" (defArgs (topS 76)) (defBody (topS 76)) (defScope (topS 76)) .none kV__law_pairs dc__law_pairs pm__law_pairs an__law_pairs cd__law_pairs ct__law_pairs), sl__law_pairs⟩)
    (c__law_pairs : PySem.W.codeIn K cd__law_pairs "_law_pairs" = true)
    (k__law_pairs : PySem.W.keepIn K (.ref f__law_pairs) = true)
    (a__law_right : PySem.W.nsIn K mainGlobals "_law_right" = some (some (.ref f__law_right)))
    (l__law_right : K.lookup f__law_right = some ⟨oc__law_right, od__law_right, .func (PySem.W.fnOf "_law_right" "_law_right" (defArgs (topS 77)) (defBody (topS 77)) (defScope (topS 77)) .none kV__law_right dc__law_right pm__law_right an__law_right cd__law_right ct__law_right), sl__law_right⟩)
    (c__law_right : PySem.W.codeIn K cd__law_right "_law_right" = true)
    (k__law_right : PySem.W.keepIn K (.ref f__law_right) = true)
    (a__law_apart_right : PySem.W.nsIn K mainGlobals "_law_apart_right" = some (some (.ref f__law_apart_right)))
    (l__law_apart_right : K.lookup f__law_apart_right = some ⟨oc__law_apart_right, od__law_apart_right, .func (PySem.W.fnOf "_law_apart_right" "_law_apart_right" (defArgs (topS 78)) (defBody (topS 78)) (defScope (topS 78)) .none kV__law_apart_right dc__law_apart_right pm__law_apart_right an__law_apart_right cd__law_apart_right ct__law_apart_right), sl__law_apart_right⟩)
    (c__law_apart_right : PySem.W.codeIn K cd__law_apart_right "_law_apart_right" = true)
    (k__law_apart_right : PySem.W.keepIn K (.ref f__law_apart_right) = true)
    (a_law : PySem.W.nsIn K mainGlobals "law" = some (some (.ref f_law)))
    (l_law : K.lookup f_law = some ⟨oc_law, od_law, .func (PySem.W.fnOf "law" "law" (defArgs (topS 79)) (defBody (topS 79)) (defScope (topS 79)) .none kV_law dc_law pm_law an_law cd_law ct_law), sl_law⟩)
    (c_law : PySem.W.codeIn K cd_law "law" = true)
    (k_law : PySem.W.keepIn K (.ref f_law) = true)
    (z_GREATEST_RING : PySem.W.nsIn K mainGlobals "GREATEST_RING" = some (some (.int 8 t1)))
    (z_LARGEST : PySem.W.nsIn K mainGlobals "LARGEST" = some (some (.int 1000000000000000000 t2)))
    (z_LETTERS : PySem.W.nsIn K mainGlobals "LETTERS" = some (some (.str "abcdefghijklmnopqrstuvwxyzABCDEFGHIJKLMNOPQRSTUVWXYZ" t3)))
    (z_MOST_LOOPS : PySem.W.nsIn K mainGlobals "MOST_LOOPS" = some (some (.int 4 t4)))
    (z_MOST_READS : PySem.W.nsIn K mainGlobals "MOST_READS" = some (some (.int 3 t5)))
    (z_MOST_STATEMENTS : PySem.W.nsIn K mainGlobals "MOST_STATEMENTS" = some (some (.int 8 t6)))
    (z_OFFSETS : PySem.W.nsIn K mainGlobals "OFFSETS" = some (some (.int 10000000000000000000 t7)))
    (z_ROUND : PySem.W.nsIn K mainGlobals "ROUND" = some (some (.int 6 t8)))
    (b_all : PySem.W.nsIn K mainGlobals "all" = some none)
    (b_bool : PySem.W.nsIn K mainGlobals "bool" = some none)
    (b_enumerate : PySem.W.nsIn K mainGlobals "enumerate" = some none)
    (b_int : PySem.W.nsIn K mainGlobals "int" = some none)
    (b_isinstance : PySem.W.nsIn K mainGlobals "isinstance" = some none)
    (b_len : PySem.W.nsIn K mainGlobals "len" = some none)
    (b_list : PySem.W.nsIn K mainGlobals "list" = some none)
    (b_max : PySem.W.nsIn K mainGlobals "max" = some none)
    (b_min : PySem.W.nsIn K mainGlobals "min" = some none)
    (b_range : PySem.W.nsIn K mainGlobals "range" = some none)
    (b_repr : PySem.W.nsIn K mainGlobals "repr" = some none)
    (b_sorted : PySem.W.nsIn K mainGlobals "sorted" = some none)
    (b_str : PySem.W.nsIn K mainGlobals "str" = some none)
    (b_tuple : PySem.W.nsIn K mainGlobals "tuple" = some none)
    (b_zip : PySem.W.nsIn K mainGlobals "zip" = some none)
    (w1 : PySem.W.findIn K (.ref CP) "arrays" = some none)
    (w2 : PySem.W.findIn K (.ref CP) "loops" = some none)
    (w3 : PySem.W.findIn K (.ref CP) "outputs" = some none)
    (w4 : PySem.W.findIn K (.ref CP) "writers" = some none)
    (w5 : PySem.W.findIn K (.ref CL) "program" = some none)
    (w6 : PySem.W.findIn K (.ref CL) "places" = some none)
    (w7 : PySem.W.findIn K (.ref CL) "spots" = some none)
    (w8 : PySem.W.findIn K (.ref CP) "MOST" = some (some (.int 6 tm)))
    (w9 : PySem.W.specialIn K (.int 6 tm) "__get__" = some none)
    (v1 : PySem.W.notFirst K CP (.ref CP) = true)
    (v2 : PySem.W.notFirst K CP (.ref CL) = true)
    (v3 : PySem.W.notFirst K CL (.ref CP) = true)
    (v4 : PySem.W.notFirst K CL (.ref CL) = true)
    (v5 : PySem.W.isClsIn K CP = true)
    (v6 : PySem.W.typeIn K (.ref CP) = some (.type "type"))
    (v7 : PySem.W.isClsIn K CL = true)
    (v8 : PySem.W.typeIn K (.ref CL) = some (.type "type"))
    (v9 : CP ≠ CL)
    (x2 : PySem.W.nsIn K mainGlobals "NoPlacement" = some (some (.ref CN)))
    (x1 : PySem.W.excIn K CN [.type "Exception", .type "BaseException", .type "object"] "Exception.__new__" = true)
    (x3 : PySem.W.keepIn K (.ref CN) = true)
    (x4 : PySem.W.subIn K (.ref CN) (.type "BaseException") = some true)
    (x5 : PySem.W.typeIn K (.ref CN) = some (.type "type"))
    (x6 : PySem.W.isClsIn K CN = true)
    (x7 : PySem.W.subIn K (.ref CN) (.ref CN) = some true)
    (u1 : PySem.W.subIn K (.ref CP) (.ref CL) = some false)
    (u2 : PySem.W.subIn K (.ref CL) (.ref CP) = some false)
    (u3 : PySem.W.findIn K (.ref CP) "__class__" = some (some (.builtin "object.__class__")))
    (u4 : PySem.W.findIn K (.ref CL) "__class__" = some (some (.builtin "object.__class__")))
    (u5 : PySem.W.specialIn K (.builtin "object.__class__") "__get__" = some (some (.builtin "getset_descriptor.__get__")))
    (u6 : PySem.W.takesIn K (.builtin "object.__class__") = some true)
    (u7 : PySem.W.mroIn K CP (.type "object") = some true)
    (u8 : PySem.W.mroIn K CL (.type "object") = some true)
    (wA : K.lookup te = some ⟨.type "tuple", dte, .seq #[] nte, ste⟩) :
    ∃ fd : FuncData, (∀ (s : Shared) (u : Value), BindsTo s fd ⟨[u], []⟩ [("_law_script", u)]) ∧ ∀ base : Heap, K.In base → base.Ns mainGlobals mg → FnG l.prog w K mg base 9 fa fd ["_law_script"] (spLaw K) := by
  have eL := hfa.symm.trans (PySem.W.mg_of X G a_law)
  cases eL
  have T : Txt K mg CP CL CN te tm := { c_Program := ⟨q2_Program, q3_Program, q4_Program, q5_Program⟩, c_Placement := ⟨q2_Placement, q3_Placement, q4_Placement, q5_Placement⟩, b_all := PySem.W.mg_none_of X G b_all, b_bool := PySem.W.mg_none_of X G b_bool, b_enumerate := PySem.W.mg_none_of X G b_enumerate, b_int := PySem.W.mg_none_of X G b_int, b_isinstance := PySem.W.mg_none_of X G b_isinstance, b_len := PySem.W.mg_none_of X G b_len, b_list := PySem.W.mg_none_of X G b_list, b_max := PySem.W.mg_none_of X G b_max, b_min := PySem.W.mg_none_of X G b_min, b_range := PySem.W.mg_none_of X G b_range, b_repr := PySem.W.mg_none_of X G b_repr, b_sorted := PySem.W.mg_none_of X G b_sorted, b_str := PySem.W.mg_none_of X G b_str, b_tuple := PySem.W.mg_none_of X G b_tuple, b_zip := PySem.W.mg_none_of X G b_zip, g_GREATEST_RING := ⟨_, PySem.W.mg_of X G z_GREATEST_RING, _, rfl⟩, g_LARGEST := ⟨_, PySem.W.mg_of X G z_LARGEST, _, rfl⟩, g_LETTERS := ⟨_, PySem.W.mg_of X G z_LETTERS, _, rfl⟩, g_MOST_LOOPS := ⟨_, PySem.W.mg_of X G z_MOST_LOOPS, _, rfl⟩, g_MOST_READS := ⟨_, PySem.W.mg_of X G z_MOST_READS, _, rfl⟩, g_MOST_STATEMENTS := ⟨_, PySem.W.mg_of X G z_MOST_STATEMENTS, _, rfl⟩, g_OFFSETS := ⟨_, PySem.W.mg_of X G z_OFFSETS, _, rfl⟩, g_ROUND := ⟨_, PySem.W.mg_of X G z_ROUND, _, rfl⟩, na_Program_arrays := w1, na_Program_loops := w2, na_Program_outputs := w3, na_Program_writers := w4, na_Placement_program := w5, na_Placement_places := w6, na_Placement_spots := w7, con_Program_MOST := ⟨w8, ⟨_, rfl⟩, w9, by decide +kernel⟩, dd := ⟨_, _, _, wA, rfl, rfl, by decide, .nil⟩, os_P := ⟨v1, v2⟩, os_L := ⟨v3, v4⟩, cg_Program := ⟨_, PySem.W.mg_of X G q1_Program, rfl⟩, cg_Placement := ⟨_, PySem.W.mg_of X G q1_Placement, rfl⟩, i_Program := ⟨⟨⟨q2_Program, q3_Program, q4_Program, q5_Program⟩, u3, u5, u6, u7, kit_same⟩, v5, v6⟩, i_Placement := ⟨⟨⟨q2_Placement, q3_Placement, q4_Placement, q5_Placement⟩, u4, u5, u6, u8, kit_same⟩, v7, v8⟩, s_PL := u1, s_LP := u2, ne_ := v9, x1 := x1, x2 := PySem.W.mg_of X G x2, x3 := x3, x4 := x4, x5 := x5, xm_NoPlacement := exm_own x4 x6 x5 x7 }
  have F__law_deck := fun_mk (st := (topS 65)) l__law_deck c__law_deck k__law_deck
  have b__law_deck := F__law_deck.binds (ps := ["_law_script"]) fun _ _ _ _ _ _ us hl => match us, hl with | [_], _ => rfl
  have F__law_draw := fun_mk (st := (topS 66)) l__law_draw c__law_draw k__law_draw
  have b__law_draw := F__law_draw.binds (ps := ["_law_deck_here", "_law_many"]) fun _ _ _ _ _ _ us hl => match us, hl with | [_, _], _ => rfl
  have F_is_integer := fun_mk (st := (topS 38)) l_is_integer c_is_integer k_is_integer
  have b_is_integer := F_is_integer.binds (ps := ["thing"]) fun _ _ _ _ _ _ us hl => match us, hl with | [_], _ => rfl
  have F_is_name := fun_mk (st := (topS 39)) l_is_name c_is_name k_is_name
  have b_is_name := F_is_name.binds (ps := ["thing"]) fun _ _ _ _ _ _ us hl => match us, hl with | [_], _ => rfl
  have F_is_amount := fun_mk (st := (topS 40)) l_is_amount c_is_amount k_is_amount
  have b_is_amount := F_is_amount.binds (ps := ["thing"]) fun _ _ _ _ _ _ us hl => match us, hl with | [_], _ => rfl
  have F_are_ascending := fun_mk (st := (topS 41)) l_are_ascending c_are_ascending k_are_ascending
  have b_are_ascending := F_are_ascending.binds (ps := ["names"]) fun _ _ _ _ _ _ us hl => match us, hl with | [_], _ => rfl
  have F_are_arrays := fun_mk (st := (topS 42)) l_are_arrays c_are_arrays k_are_arrays
  have b_are_arrays := F_are_arrays.binds (ps := ["arrays", "most"]) fun _ _ _ _ _ _ us hl => match us, hl with | [_, _], _ => rfl
  have F_is_access := fun_mk (st := (topS 43)) l_is_access c_is_access k_is_access
  have b_is_access := F_is_access.binds (ps := ["thing", "names"]) fun _ _ _ _ _ _ us hl => match us, hl with | [_, _], _ => rfl
  have F_is_statement := fun_mk (st := (topS 44)) l_is_statement c_is_statement k_is_statement
  have b_is_statement := F_is_statement.binds (ps := ["thing", "names", "count"]) fun _ _ _ _ _ _ us hl => match us, hl with | [_, _, _], _ => rfl
  have F_are_loops := fun_mk (st := (topS 45)) l_are_loops c_are_loops k_are_loops
  have b_are_loops := F_are_loops.binds (ps := ["loops", "names"]) fun _ _ _ _ _ _ us hl => match us, hl with | [_, _], _ => rfl
  have F_are_outputs := fun_mk (st := (topS 46)) l_are_outputs c_are_outputs k_are_outputs
  have b_are_outputs := F_are_outputs.binds (ps := ["outputs", "names"]) fun _ _ _ _ _ _ us hl => match us, hl with | [_, _], _ => rfl
  have F_all_writers := fun_mk (st := (topS 47)) l_all_writers c_all_writers k_all_writers
  have b_all_writers := F_all_writers.binds (ps := ["loops"]) fun _ _ _ _ _ _ us hl => match us, hl with | [_], _ => rfl
  have F_all_reads := fun_mk (st := (topS 48)) l_all_reads c_all_reads k_all_reads
  have b_all_reads := F_all_reads.binds (ps := ["loops"]) fun _ _ _ _ _ _ us hl => match us, hl with | [_], _ => rfl
  have F_first_out := fun_mk (st := (topS 25)) l_first_out c_first_out k_first_out
  have b_first_out := F_first_out.binds (ps := ["access", "size"]) fun _ _ _ _ _ _ us hl => match us, hl with | [_, _], _ => rfl
  have F_at_most := fun_mk (st := (topS 24)) l_at_most c_at_most k_at_most
  have b_at_most := F_at_most.binds (ps := ["low", "high", "base", "rise", "most"]) fun _ _ _ _ _ _ us hl => match us, hl with | [_, _, _, _, _], _ => rfl
  have F_last_step := fun_mk (st := (topS 26)) l_last_step c_last_step k_last_step
  have b_last_step := F_last_step.binds (ps := ["count", "residue"]) fun _ _ _ _ _ _ us hl => match us, hl with | [_, _], _ => rfl
  have F_meeting := fun_mk (st := (topS 27)) l_meeting c_meeting k_meeting
  have b_meeting := F_meeting.binds (ps := ["access", "residue", "source"]) fun _ _ _ _ _ _ us hl => match us, hl with | [_, _, _], _ => rfl
  have F_first_met := fun_mk (st := (topS 29)) l_first_met c_first_met k_first_met
  have b_first_met := F_first_met.binds (ps := ["access", "source"]) fun _ _ _ _ _ _ us hl => match us, hl with | [_, _], _ => rfl
  have F_Program_inputs := fun_mk (st := (inClass (topS 53) 4)) l_Program_inputs c_Program_inputs k_Program_inputs
  have b_Program_inputs := F_Program_inputs.binds (ps := ["self"]) fun _ _ _ _ _ _ us hl => match us, hl with | [_], _ => rfl
  have F_Program_size_of := fun_mk (st := (inClass (topS 53) 8)) l_Program_size_of c_Program_size_of k_Program_size_of
  have b_Program_size_of := F_Program_size_of.binds (ps := ["self", "name"]) fun _ _ _ _ _ _ us hl => match us, hl with | [_, _], _ => rfl
  have F_Program___contains__ := fun_mk (st := (inClass (topS 53) 6)) l_Program___contains__ c_Program___contains__ k_Program___contains__
  have b_Program___contains__ := F_Program___contains__.binds (ps := ["self", "thing"]) fun _ _ _ _ _ _ us hl => match us, hl with | [_, _], _ => rfl
  have F_check_bounds := fun_mk (st := (topS 50)) l_check_bounds c_check_bounds k_check_bounds
  have b_check_bounds := F_check_bounds.binds (ps := ["program"]) fun _ _ _ _ _ _ us hl => match us, hl with | [_], _ => rfl
  have F_check_writes := fun_mk (st := (topS 51)) l_check_writes c_check_writes k_check_writes
  have b_check_writes := F_check_writes.binds (ps := ["program"]) fun _ _ _ _ _ _ us hl => match us, hl with | [_], _ => rfl
  have F_check_uses := fun_mk (st := (topS 52)) l_check_uses c_check_uses k_check_uses
  have b_check_uses := F_check_uses.binds (ps := ["program"]) fun _ _ _ _ _ _ us hl => match us, hl with | [_], _ => rfl
  have F_Program___init__ := funA_mk (st := (inClass (topS 53) 1)) l_Program___init__ c_Program___init__
  have b_Program___init__ := F_Program___init__.binds (ps := ["self", "arrays", "loops", "outputs"]) 3 rfl m_Program___init__ rfl fun _ _ _ _ _ _ us hl => match us, hl with | [_, _, _], _ => ⟨_, rfl, rfl⟩
  have F_Program___eq__ := fun_mk (st := (inClass (topS 53) 7)) l_Program___eq__ c_Program___eq__ k_Program___eq__
  have b_Program___eq__ := F_Program___eq__.binds (ps := ["self", "other"]) fun _ _ _ _ _ _ us hl => match us, hl with | [_, _], _ => rfl
  have F_is_layout := fun_mk (st := (topS 56)) l_is_layout c_is_layout k_is_layout
  have b_is_layout := F_is_layout.binds (ps := ["thing"]) fun _ _ _ _ _ _ us hl => match us, hl with | [_], _ => rfl
  have F_low_high := fun_mk (st := (topS 57)) l_low_high c_low_high k_low_high
  have b_low_high := F_low_high.binds (ps := ["layout", "size"]) fun _ _ _ _ _ _ us hl => match us, hl with | [_, _], _ => rfl
  have F_are_places := fun_mk (st := (topS 59)) l_are_places c_are_places k_are_places
  have b_are_places := F_are_places.binds (ps := ["program", "places"]) fun _ _ _ _ _ _ us hl => match us, hl with | [_, _], _ => rfl
  have F_Placement___init__ := fun_mk (st := (inClass (topS 63) 0)) l_Placement___init__ c_Placement___init__ k_Placement___init__
  have F_Placement_apart := fun_mk (st := (inClass (topS 63) 1)) l_Placement_apart c_Placement_apart k_Placement_apart
  have b_Placement_apart := F_Placement_apart.binds (ps := ["cls", "program"]) fun _ _ _ _ _ _ us hl => match us, hl with | [_, _], _ => rfl
  have F_Placement_size := fun_mk (st := (inClass (topS 63) 3)) l_Placement_size c_Placement_size k_Placement_size
  have b_Placement_size := F_Placement_size.binds (ps := ["self"]) fun _ _ _ _ _ _ us hl => match us, hl with | [_], _ => rfl
  have F_Placement___eq__ := fun_mk (st := (inClass (topS 63) 5)) l_Placement___eq__ c_Placement___eq__ k_Placement___eq__
  have b_Placement___eq__ := F_Placement___eq__.binds (ps := ["self", "other"]) fun _ _ _ _ _ _ us hl => match us, hl with | [_, _], _ => rfl
  have F_Placement_moved := fun_mk (st := (inClass (topS 63) 9)) l_Placement_moved c_Placement_moved k_Placement_moved
  have F__law_pick := fun_mk (st := (topS 67)) l__law_pick c__law_pick k__law_pick
  have b__law_pick := F__law_pick.binds (ps := ["_law_deck_here", "_law_some"]) fun _ _ _ _ _ _ us hl => match us, hl with | [_, _], _ => rfl
  have F__law_names := fun_mk (st := (topS 68)) l__law_names c__law_names k__law_names
  have b__law_names := F__law_names.binds (ps := ["_law_deck_here"]) fun _ _ _ _ _ _ us hl => match us, hl with | [_], _ => rfl
  have F__law_size := fun_mk (st := (topS 69)) l__law_size c__law_size k__law_size
  have b__law_size := F__law_size.binds (ps := ["_law_deck_here"]) fun _ _ _ _ _ _ us hl => match us, hl with | [_], _ => rfl
  have F__law_program := fun_mk (st := (topS 70)) l__law_program c__law_program k__law_program
  have b__law_program := F__law_program.binds (ps := ["_law_deck_here"]) fun _ _ _ _ _ _ us hl => match us, hl with | [_], _ => rfl
  have F__law_great := fun_mk (st := (topS 71)) l__law_great c__law_great k__law_great
  have b__law_great := F__law_great.binds (ps := ["_law_deck_here"]) fun _ _ _ _ _ _ us hl => match us, hl with | [_], _ => rfl
  have F__law_places := fun_mk (st := (topS 72)) l__law_places c__law_places k__law_places
  have b__law_places := F__law_places.binds (ps := ["_law_deck_here", "_law_arrays"]) fun _ _ _ _ _ _ us hl => match us, hl with | [_, _], _ => rfl
  have F__law_turned := fun_mk (st := (topS 73)) l__law_turned c__law_turned k__law_turned
  have b__law_turned := F__law_turned.binds (ps := ["_law_deck_here", "_law_rows"]) fun _ _ _ _ _ _ us hl => match us, hl with | [_, _], _ => rfl
  have F__law_placement := fun_mk (st := (topS 74)) l__law_placement c__law_placement k__law_placement
  have b__law_placement := F__law_placement.binds (ps := ["_law_base", "_law_rows"]) fun _ _ _ _ _ _ us hl => match us, hl with | [_, _], _ => rfl
  have F__law_moved := fun_mk (st := (topS 75)) l__law_moved c__law_moved k__law_moved
  have b__law_moved := F__law_moved.binds (ps := ["_law_placement_here", "_law_pairs_here"]) fun _ _ _ _ _ _ us hl => match us, hl with | [_, _], _ => rfl
  have F__law_pairs := fun_mk (st := (topS 76)) l__law_pairs c__law_pairs k__law_pairs
  have b__law_pairs := F__law_pairs.binds (ps := ["_law_deck_here", "_law_arrays", "_law_rows"]) fun _ _ _ _ _ _ us hl => match us, hl with | [_, _, _], _ => rfl
  have F__law_right := fun_mk (st := (topS 77)) l__law_right c__law_right k__law_right
  have b__law_right := F__law_right.binds (ps := ["_law_placement_here", "_law_arrays", "_law_rows", "_law_pairs_here"]) fun _ _ _ _ _ _ us hl => match us, hl with | [_, _, _, _], _ => rfl
  have F__law_apart_right := fun_mk (st := (topS 78)) l__law_apart_right c__law_apart_right k__law_apart_right
  have b__law_apart_right := F__law_apart_right.binds (ps := ["_law_base"]) fun _ _ _ _ _ _ us hl => match us, hl with | [_], _ => rfl
  have F_law := fun_mk (st := (topS 79)) l_law c_law k_law
  refine ⟨PySem.W.fnOf "law" "law" (defArgs (topS 79)) (defBody (topS 79)) (defScope (topS 79)) .none kV_law dc_law pm_law an_law cd_law ct_law, fun s v => .of_eq rfl, fun base _ _ => ?_⟩
  have G__law_draw : ∀ da ca : Addr, Gf l.prog w K mg base (pr K CP CL CN da ca) "_law_draw" 1 2 w__law_draw := fun da ca => ⟨⟨_, _, _, ok__law_draw (da := da) (ca := ca) T F__law_draw , PySem.W.mg_of X G a__law_draw, k__law_draw, b__law_draw⟩⟩
  have G_is_integer : ∀ da ca : Addr, Gf l.prog w K mg base (pr K CP CL CN da ca) "is_integer" 1 1 w_is_integer := fun da ca => ⟨⟨_, _, _, ok_is_integer (da := da) (ca := ca) T F_is_integer , PySem.W.mg_of X G a_is_integer, k_is_integer, b_is_integer⟩⟩
  have G_is_name : ∀ da ca : Addr, Gf l.prog w K mg base (pr K CP CL CN da ca) "is_name" 1 1 w_is_name := fun da ca => ⟨⟨_, _, _, ok_is_name (da := da) (ca := ca) T F_is_name , PySem.W.mg_of X G a_is_name, k_is_name, b_is_name⟩⟩
  have G_is_amount : ∀ da ca : Addr, Gf l.prog w K mg base (pr K CP CL CN da ca) "is_amount" 2 1 w_is_amount := fun da ca => ⟨⟨_, _, _, ok_is_amount (da := da) (ca := ca) T F_is_amount (G_is_integer da ca), PySem.W.mg_of X G a_is_amount, k_is_amount, b_is_amount⟩⟩
  have G_are_ascending : ∀ da ca : Addr, Gf l.prog w K mg base (pr K CP CL CN da ca) "are_ascending" 1 1 w_are_ascending := fun da ca => ⟨⟨_, _, _, ok_are_ascending (da := da) (ca := ca) T F_are_ascending , PySem.W.mg_of X G a_are_ascending, k_are_ascending, b_are_ascending⟩⟩
  have G_are_arrays : ∀ da ca : Addr, Gf l.prog w K mg base (pr K CP CL CN da ca) "are_arrays" 3 2 w_are_arrays := fun da ca => ⟨⟨_, _, _, ok_are_arrays (da := da) (ca := ca) T F_are_arrays (G_are_ascending da ca) (G_is_amount da ca) (G_is_name da ca), PySem.W.mg_of X G a_are_arrays, k_are_arrays, b_are_arrays⟩⟩
  have G_is_access : ∀ da ca : Addr, Gf l.prog w K mg base (pr K CP CL CN da ca) "is_access" 2 2 w_is_access := fun da ca => ⟨⟨_, _, _, ok_is_access (da := da) (ca := ca) T F_is_access (G_is_integer da ca), PySem.W.mg_of X G a_is_access, k_is_access, b_is_access⟩⟩
  have G_is_statement : ∀ da ca : Addr, Gf l.prog w K mg base (pr K CP CL CN da ca) "is_statement" 3 3 w_is_statement := fun da ca => ⟨⟨_, _, _, ok_is_statement (da := da) (ca := ca) T F_is_statement (G_is_access da ca), PySem.W.mg_of X G a_is_statement, k_is_statement, b_is_statement⟩⟩
  have G_are_loops : ∀ da ca : Addr, Gf l.prog w K mg base (pr K CP CL CN da ca) "are_loops" 4 2 w_are_loops := fun da ca => ⟨⟨_, _, _, ok_are_loops (da := da) (ca := ca) T F_are_loops (G_is_amount da ca) (G_is_statement da ca), PySem.W.mg_of X G a_are_loops, k_are_loops, b_are_loops⟩⟩
  have G_are_outputs : ∀ da ca : Addr, Gf l.prog w K mg base (pr K CP CL CN da ca) "are_outputs" 2 2 w_are_outputs := fun da ca => ⟨⟨_, _, _, ok_are_outputs (da := da) (ca := ca) T F_are_outputs (G_are_ascending da ca), PySem.W.mg_of X G a_are_outputs, k_are_outputs, b_are_outputs⟩⟩
  have G_all_writers : ∀ da ca : Addr, Gf l.prog w K mg base (pr K CP CL CN da ca) "all_writers" 1 1 w_all_writers := fun da ca => ⟨⟨_, _, _, ok_all_writers (da := da) (ca := ca) T F_all_writers , PySem.W.mg_of X G a_all_writers, k_all_writers, b_all_writers⟩⟩
  have G_all_reads : ∀ da ca : Addr, Gf l.prog w K mg base (pr K CP CL CN da ca) "all_reads" 1 1 w_all_reads := fun da ca => ⟨⟨_, _, _, ok_all_reads (da := da) (ca := ca) T F_all_reads , PySem.W.mg_of X G a_all_reads, k_all_reads, b_all_reads⟩⟩
  have G_first_out : ∀ da ca : Addr, Gf l.prog w K mg base (pr K CP CL CN da ca) "first_out" 1 2 w_first_out := fun da ca => ⟨⟨_, _, _, ok_first_out (da := da) (ca := ca) T F_first_out , PySem.W.mg_of X G a_first_out, k_first_out, b_first_out⟩⟩
  have G_at_most : ∀ da ca : Addr, Gf l.prog w K mg base (pr K CP CL CN da ca) "at_most" 1 5 w_at_most := fun da ca => ⟨⟨_, _, _, ok_at_most (da := da) (ca := ca) T F_at_most , PySem.W.mg_of X G a_at_most, k_at_most, b_at_most⟩⟩
  have G_last_step : ∀ da ca : Addr, Gf l.prog w K mg base (pr K CP CL CN da ca) "last_step" 1 2 w_last_step := fun da ca => ⟨⟨_, _, _, ok_last_step (da := da) (ca := ca) T F_last_step , PySem.W.mg_of X G a_last_step, k_last_step, b_last_step⟩⟩
  have G_meeting : ∀ da ca : Addr, Gf l.prog w K mg base (pr K CP CL CN da ca) "meeting" 2 3 w_meeting := fun da ca => ⟨⟨_, _, _, ok_meeting (da := da) (ca := ca) T F_meeting (G_at_most da ca) (G_last_step da ca), PySem.W.mg_of X G a_meeting, k_meeting, b_meeting⟩⟩
  have G_first_met : ∀ da ca : Addr, Gf l.prog w K mg base (pr K CP CL CN da ca) "first_met" 3 2 w_first_met := fun da ca => ⟨⟨_, _, _, ok_first_met (da := da) (ca := ca) T F_first_met (G_meeting da ca), PySem.W.mg_of X G a_first_met, k_first_met, b_first_met⟩⟩
  have G_Program_inputs : ∀ da ca : Addr, Gp l.prog w K mg base (pr K CP CL CN da ca) CP (Str.ofString "inputs") 1 w_Program_inputs := fun da ca => ⟨⟨_, _, _, _, ok_Program_inputs (da := da) (ca := ca) T F_Program_inputs , ⟨a_Program_inputs, g_Program_inputs, t_Program_inputs, ⟨_, r_Program_inputs⟩⟩, b_Program_inputs⟩⟩
  have G_Program_size_of : ∀ da ca : Addr, Gm l.prog w K mg base (pr K CP CL CN da ca) CP (Str.ofString "size_of") 1 2 w_Program_size_of := fun da ca => ⟨⟨_, _, _, ok_Program_size_of (da := da) (ca := ca) T F_Program_size_of , ⟨a_Program_size_of, i_Program_size_of, k_Program_size_of⟩, b_Program_size_of⟩⟩
  have G_Program___contains__ : ∀ da ca : Addr, Gin l.prog w K mg base (pr K CP CL CN da ca) CP 1 w_Program___contains__ := fun da ca => ⟨⟨_, _, _, ok_Program___contains__ (da := da) (ca := ca) T F_Program___contains__ , ⟨a_Program___contains__, i_Program___contains__⟩, b_Program___contains__⟩⟩
  have G_check_bounds : ∀ da ca : Addr, Gf l.prog w K mg base (pr K CP CL CN da ca) "check_bounds" 2 1 w_check_bounds := fun da ca => ⟨⟨_, _, _, ok_check_bounds (da := da) (ca := ca) T F_check_bounds (G_all_reads da ca) (G_first_out da ca) (G_Program_size_of da ca), PySem.W.mg_of X G a_check_bounds, k_check_bounds, b_check_bounds⟩⟩
  have G_check_writes : ∀ da ca : Addr, Gf l.prog w K mg base (pr K CP CL CN da ca) "check_writes" 4 1 w_check_writes := fun da ca => ⟨⟨_, _, _, ok_check_writes (da := da) (ca := ca) T F_check_writes (G_first_met da ca), PySem.W.mg_of X G a_check_writes, k_check_writes, b_check_writes⟩⟩
  have G_check_uses : ∀ da ca : Addr, Gf l.prog w K mg base (pr K CP CL CN da ca) "check_uses" 3 1 w_check_uses := fun da ca => ⟨⟨_, _, _, ok_check_uses (da := da) (ca := ca) T F_check_uses (G_all_reads da ca) (G_Program_inputs da ca), PySem.W.mg_of X G a_check_uses, k_check_uses, b_check_uses⟩⟩
  have G_Program : ∀ da ca : Addr, Gi l.prog w K mg base (pr K CP CL CN da ca) CP "Program" 5 3 wI_Program___init__ [.ref te] := fun da ca => ⟨⟨_, _, _, _, ok_Program___init__ (da := da) (ca := ca) T F_Program___init__ (G_all_writers da ca) (G_are_arrays da ca) (G_are_loops da ca) (G_are_outputs da ca) (G_check_bounds da ca) (G_check_uses da ca) (G_check_writes da ca), ⟨q6_Program, a_Program___init__, i_Program___init__, q7_Program⟩, PySem.W.mg_of X G q1_Program, b_Program___init__, .cons rfl .nil⟩⟩
  have G_Program___eq__ : ∀ da ca : Addr, Geq l.prog w K mg base (pr K CP CL CN da ca) CP 1 w_Program___eq__ := fun da ca => ⟨⟨_, _, _, ok_Program___eq__ (da := da) (ca := ca) T F_Program___eq__ , ⟨a_Program___eq__, i_Program___eq__, qn_Program, qo_Program⟩, b_Program___eq__⟩⟩
  have G_is_layout : ∀ da ca : Addr, Gf l.prog w K mg base (pr K CP CL CN da ca) "is_layout" 2 1 w_is_layout := fun da ca => ⟨⟨_, _, _, ok_is_layout (da := da) (ca := ca) T F_is_layout (G_is_integer da ca), PySem.W.mg_of X G a_is_layout, k_is_layout, b_is_layout⟩⟩
  have G_low_high : ∀ da ca : Addr, Gf l.prog w K mg base (pr K CP CL CN da ca) "low_high" 1 2 w_low_high := fun da ca => ⟨⟨_, _, _, ok_low_high (da := da) (ca := ca) T F_low_high , PySem.W.mg_of X G a_low_high, k_low_high, b_low_high⟩⟩
  have G_are_places : ∀ da ca : Addr, Gf l.prog w K mg base (pr K CP CL CN da ca) "are_places" 3 2 w_are_places := fun da ca => ⟨⟨_, _, _, ok_are_places (da := da) (ca := ca) T F_are_places (G_is_integer da ca) (G_is_layout da ca) (G_low_high da ca) (G_Program___contains__ da ca) (G_Program_size_of da ca), PySem.W.mg_of X G a_are_places, k_are_places, b_are_places⟩⟩
  have G_Placement : ∀ da ca : Addr, GisX l.prog w K mg base (pr K CP CL CN da ca) CL "Placement" 4 1 wI_Placement___init__ := fun da ca => ⟨⟨_, ok_Placement___init__ (da := da) (ca := ca) T F_Placement___init__ (G_are_places da ca), ⟨q6_Placement, a_Placement___init__, i_Placement___init__, q7_Placement⟩, PySem.W.mg_of X G q1_Placement⟩⟩
  have G_Placement_apart_k : ∀ da ca : Addr, GcmK l.prog w K mg base (pr K CP CL CN da ca) CL "Placement" (Str.ofString "apart") (Str.ofString "program") 6 w_Placement_apart := fun da ca => ⟨⟨_, _, _, _, _, ok_Placement_apart (da := da) (ca := ca) T F_Placement_apart (G_Placement da ca), ⟨rd_Placement_apart, rg_Placement_apart⟩, ⟨a_Placement_apart, ⟨_, r_Placement_apart⟩, j_Placement_apart⟩, rfl, fun _ _ => rfl, PySem.W.mg_of X G q1_Placement⟩⟩
  have G_Placement_size : ∀ da ca : Addr, Gp l.prog w K mg base (pr K CP CL CN da ca) CL (Str.ofString "size") 2 w_Placement_size := fun da ca => ⟨⟨_, _, _, _, ok_Placement_size (da := da) (ca := ca) T F_Placement_size (G_low_high da ca) (G_Program_size_of da ca), ⟨a_Placement_size, g_Placement_size, t_Placement_size, ⟨_, r_Placement_size⟩⟩, b_Placement_size⟩⟩
  have G_Placement___eq__ : ∀ da ca : Addr, Geq l.prog w K mg base (pr K CP CL CN da ca) CL 3 w_Placement___eq__ := fun da ca => ⟨⟨_, _, _, ok_Placement___eq__ (da := da) (ca := ca) T F_Placement___eq__ (G_Program___eq__ da ca), ⟨a_Placement___eq__, i_Placement___eq__, qn_Placement, qo_Placement⟩, b_Placement___eq__⟩⟩
  have G_Placement_moved : ∀ da ca : Addr, GmsX l.prog w K mg base (pr K CP CL CN da ca) CL (Str.ofString "moved") 6 1 w_Placement_moved := fun da ca => ⟨⟨_, ok_Placement_moved (da := da) (ca := ca) T F_Placement_moved (G_Placement da ca), ⟨a_Placement_moved, i_Placement_moved, k_Placement_moved⟩⟩⟩
  have G__law_pick : ∀ da ca : Addr, Gf l.prog w K mg base (pr K CP CL CN da ca) "_law_pick" 2 2 w__law_pick := fun da ca => ⟨⟨_, _, _, ok__law_pick (da := da) (ca := ca) T F__law_pick (G__law_draw da ca), PySem.W.mg_of X G a__law_pick, k__law_pick, b__law_pick⟩⟩
  have G__law_names : ∀ da ca : Addr, Gf l.prog w K mg base (pr K CP CL CN da ca) "_law_names" 3 1 w__law_names := fun da ca => ⟨⟨_, _, _, ok__law_names (da := da) (ca := ca) T F__law_names (G__law_draw da ca) (G__law_pick da ca), PySem.W.mg_of X G a__law_names, k__law_names, b__law_names⟩⟩
  have G__law_size : ∀ da ca : Addr, Gf l.prog w K mg base (pr K CP CL CN da ca) "_law_size" 3 1 w__law_size := fun da ca => ⟨⟨_, _, _, ok__law_size (da := da) (ca := ca) T F__law_size (G__law_draw da ca) (G__law_pick da ca), PySem.W.mg_of X G a__law_size, k__law_size, b__law_size⟩⟩
  have G__law_program : ∀ da ca : Addr, Gf l.prog w K mg base (pr K CP CL CN da ca) "_law_program" 7 1 w__law_program := fun da ca => ⟨⟨_, _, _, ok__law_program (da := da) (ca := ca) T F__law_program (G__law_draw da ca) (G__law_names da ca) (G__law_pick da ca) (G__law_size da ca) (G_Program da ca), PySem.W.mg_of X G a__law_program, k__law_program, b__law_program⟩⟩
  have G__law_great : ∀ da ca : Addr, Gf l.prog w K mg base (pr K CP CL CN da ca) "_law_great" 3 1 w__law_great := fun da ca => ⟨⟨_, _, _, ok__law_great (da := da) (ca := ca) T F__law_great (G__law_draw da ca) (G__law_pick da ca), PySem.W.mg_of X G a__law_great, k__law_great, b__law_great⟩⟩
  have G__law_places : ∀ da ca : Addr, Gf l.prog w K mg base (pr K CP CL CN da ca) "_law_places" 4 2 w__law_places := fun da ca => ⟨⟨_, _, _, ok__law_places (da := da) (ca := ca) T F__law_places (G__law_draw da ca) (G__law_great da ca) (G__law_pick da ca), PySem.W.mg_of X G a__law_places, k__law_places, b__law_places⟩⟩
  have G__law_turned : ∀ da ca : Addr, Gf l.prog w K mg base (pr K CP CL CN da ca) "_law_turned" 2 2 w__law_turned := fun da ca => ⟨⟨_, _, _, ok__law_turned (da := da) (ca := ca) T F__law_turned (G__law_draw da ca), PySem.W.mg_of X G a__law_turned, k__law_turned, b__law_turned⟩⟩
  have G__law_placement : ∀ da ca : Addr, Gf l.prog w K mg base (pr K CP CL CN da ca) "_law_placement" 6 2 w__law_placement := fun da ca => ⟨⟨_, _, _, ok__law_placement (da := da) (ca := ca) T F__law_placement (G_Placement da ca), PySem.W.mg_of X G a__law_placement, k__law_placement, b__law_placement⟩⟩
  have G__law_moved : ∀ da ca : Addr, GfX l.prog w K mg base (pr K CP CL CN da ca) "_law_moved" 7 2 w__law_moved := fun da ca => ⟨⟨_, _, _, ok__law_moved (da := da) (ca := ca) T F__law_moved (G_Placement_moved da ca), PySem.W.mg_of X G a__law_moved, k__law_moved, b__law_moved⟩⟩
  have G__law_pairs : ∀ da ca : Addr, Gf l.prog w K mg base (pr K CP CL CN da ca) "_law_pairs" 4 3 w__law_pairs := fun da ca => ⟨⟨_, _, _, ok__law_pairs (da := da) (ca := ca) T F__law_pairs (G__law_draw da ca) (G__law_great da ca), PySem.W.mg_of X G a__law_pairs, k__law_pairs, b__law_pairs⟩⟩
  have G__law_right : ∀ da ca : Addr, Gg l.prog w K mg base (pr K CP CL CN da ca) "_law_right" 8 4 w__law_right := fun da ca => ⟨⟨_, _, _, ok__law_right (da := da) (ca := ca) T F__law_right (G_Placement___eq__ da ca) (G_Program___eq__ da ca) (G__law_moved da ca), PySem.W.mg_of X G a__law_right, k__law_right, b__law_right⟩⟩
  have G__law_apart_right : ∀ da ca : Addr, Gg l.prog w K mg base (pr K CP CL CN da ca) "_law_apart_right" 7 1 w__law_apart_right := fun da ca => ⟨⟨_, _, _, ok__law_apart_right (da := da) (ca := ca) T F__law_apart_right (G_Placement_apart_k da ca) (G_Placement_size da ca), PySem.W.mg_of X G a__law_apart_right, k__law_apart_right, b__law_apart_right⟩⟩
  exact ok_law F_law (ok__law_deck T F__law_deck) (PySem.W.mg_of X G a__law_deck) k__law_deck b__law_deck fun da ca cdv A outer s H E gd hr => rest_law (da := da) (ca := ca) T (G__law_pairs da ca) (G__law_placement da ca) (G__law_places da ca) (G__law_program da ca) (G__law_turned da ca) (G__law_apart_right da ca) (G__law_right da ca) cdv A outer s H E gd hr
end K22
end
section
set_option maxHeartbeats 0
open PySem PySem.W PyProof.Rows
open_top H22_head for PySem.Challenge.rw_leastlap_k22_moved_and_apart
end
section
open PySem PySem.W PyProof.Rows
set_option maxRecDepth 100000 in
set_option maxHeartbeats 0 in
theorem PySem.Challenge.cw_leastlap_k22_moved_and_apart_holds : PySem.Challenge.rw_leastlap_k22_moved_and_apart.Holds := by
  refine H22_head ?_
  k_fill
  refine DL.walkG_of (l := PySem.Challenge.rw_leastlap_k22_moved_and_apart) (n := 63) (k := 9) (x := "_law_script") (sp := K22.spLaw) rfl (by decide) rfl ⟨rfl, by decide, by decide⟩ rfl (fun w h Y => PySem.W.kIn_of Y) ?F fun K H a ns hl _ hS => ⟨a, ns, rfl, hS, hl, fun _ => rfl⟩
  case F =>
    intro w mg fa h KX G hmg
    refine' K22.facts (l := PySem.Challenge.rw_leastlap_k22_moved_and_apart) (w := w) KX G hmg ?q1_Program ?q2_Program ?q3_Program ?q4_Program ?q5_Program ?q6_Program ?q7_Program ?q1_Placement ?q2_Placement ?q3_Placement ?q4_Placement ?q5_Placement ?q6_Placement ?q7_Placement ?qn_Program ?qo_Program ?qn_Placement ?qo_Placement ?a__law_deck ?l__law_deck ?c__law_deck ?k__law_deck ?a__law_draw ?l__law_draw ?c__law_draw ?k__law_draw ?a_is_integer ?l_is_integer ?c_is_integer ?k_is_integer ?a_is_name ?l_is_name ?c_is_name ?k_is_name ?a_is_amount ?l_is_amount ?c_is_amount ?k_is_amount ?a_are_ascending ?l_are_ascending ?c_are_ascending ?k_are_ascending ?a_are_arrays ?l_are_arrays ?c_are_arrays ?k_are_arrays ?a_is_access ?l_is_access ?c_is_access ?k_is_access ?a_is_statement ?l_is_statement ?c_is_statement ?k_is_statement ?a_are_loops ?l_are_loops ?c_are_loops ?k_are_loops ?a_are_outputs ?l_are_outputs ?c_are_outputs ?k_are_outputs ?a_all_writers ?l_all_writers ?c_all_writers ?k_all_writers ?a_all_reads ?l_all_reads ?c_all_reads ?k_all_reads ?a_first_out ?l_first_out ?c_first_out ?k_first_out ?a_at_most ?l_at_most ?c_at_most ?k_at_most ?a_last_step ?l_last_step ?c_last_step ?k_last_step ?a_meeting ?l_meeting ?c_meeting ?k_meeting ?a_first_met ?l_first_met ?c_first_met ?k_first_met ?a_Program_inputs ?g_Program_inputs ?t_Program_inputs ?r_Program_inputs ?l_Program_inputs ?c_Program_inputs ?k_Program_inputs ?a_Program_size_of ?i_Program_size_of ?l_Program_size_of ?c_Program_size_of ?k_Program_size_of ?a_Program___contains__ ?i_Program___contains__ ?l_Program___contains__ ?c_Program___contains__ ?k_Program___contains__ ?a_check_bounds ?l_check_bounds ?c_check_bounds ?k_check_bounds ?a_check_writes ?l_check_writes ?c_check_writes ?k_check_writes ?a_check_uses ?l_check_uses ?c_check_uses ?k_check_uses ?a_Program___init__ ?i_Program___init__ ?l_Program___init__ ?c_Program___init__ ?k_Program___init__ ?m_Program___init__ ?a_Program___eq__ ?i_Program___eq__ ?l_Program___eq__ ?c_Program___eq__ ?k_Program___eq__ ?a_is_layout ?l_is_layout ?c_is_layout ?k_is_layout ?a_low_high ?l_low_high ?c_low_high ?k_low_high ?a_are_places ?l_are_places ?c_are_places ?k_are_places ?a_Placement___init__ ?i_Placement___init__ ?l_Placement___init__ ?c_Placement___init__ ?k_Placement___init__ ?a_Placement_apart ?r_Placement_apart ?j_Placement_apart ?rd_Placement_apart ?rg_Placement_apart ?l_Placement_apart ?c_Placement_apart ?k_Placement_apart ?a_Placement_size ?g_Placement_size ?t_Placement_size ?r_Placement_size ?l_Placement_size ?c_Placement_size ?k_Placement_size ?a_Placement___eq__ ?i_Placement___eq__ ?l_Placement___eq__ ?c_Placement___eq__ ?k_Placement___eq__ ?a_Placement_moved ?i_Placement_moved ?l_Placement_moved ?c_Placement_moved ?k_Placement_moved ?a__law_pick ?l__law_pick ?c__law_pick ?k__law_pick ?a__law_names ?l__law_names ?c__law_names ?k__law_names ?a__law_size ?l__law_size ?c__law_size ?k__law_size ?a__law_program ?l__law_program ?c__law_program ?k__law_program ?a__law_great ?l__law_great ?c__law_great ?k__law_great ?a__law_places ?l__law_places ?c__law_places ?k__law_places ?a__law_turned ?l__law_turned ?c__law_turned ?k__law_turned ?a__law_placement ?l__law_placement ?c__law_placement ?k__law_placement ?a__law_moved ?l__law_moved ?c__law_moved ?k__law_moved ?a__law_pairs ?l__law_pairs ?c__law_pairs ?k__law_pairs ?a__law_right ?l__law_right ?c__law_right ?k__law_right ?a__law_apart_right ?l__law_apart_right ?c__law_apart_right ?k__law_apart_right ?a_law ?l_law ?c_law ?k_law ?z_GREATEST_RING ?z_LARGEST ?z_LETTERS ?z_MOST_LOOPS ?z_MOST_READS ?z_MOST_STATEMENTS ?z_OFFSETS ?z_ROUND ?b_all ?b_bool ?b_enumerate ?b_int ?b_isinstance ?b_len ?b_list ?b_max ?b_min ?b_range ?b_repr ?b_sorted ?b_str ?b_tuple ?b_zip ?w1 ?w2 ?w3 ?w4 ?w5 ?w6 ?w7 ?w8 ?w9 ?v1 ?v2 ?v3 ?v4 ?v5 ?v6 ?v7 ?v8 ?v9 ?x2 ?x1 ?x3 ?x4 ?x5 ?x6 ?x7 ?u1 ?u2 ?u3 ?u4 ?u5 ?u6 ?u7 ?u8 ?wA
    (case q1_Program => k_is)
    (case q2_Program => k_is)
    (case q3_Program => k_is)
    (case q4_Program => k_is)
    (case q5_Program => k_is)
    (case q6_Program => k_is)
    (case q7_Program => k_is)
    (case q1_Placement => k_is)
    (case q2_Placement => k_is)
    (case q3_Placement => k_is)
    (case q4_Placement => k_is)
    (case q5_Placement => k_is)
    (case q6_Placement => k_is)
    (case q7_Placement => k_is)
    (case qn_Program => k_is)
    (case qo_Program => k_is)
    (case qn_Placement => k_is)
    (case qo_Placement => k_is)
    (case a__law_deck => k_is)
    (case l__law_deck => k_is)
    (case c__law_deck => k_is)
    (case k__law_deck => k_is)
    (case a__law_draw => k_is)
    (case l__law_draw => k_is)
    (case c__law_draw => k_is)
    (case k__law_draw => k_is)
    (case a_is_integer => k_is)
    (case l_is_integer => k_is)
    (case c_is_integer => k_is)
    (case k_is_integer => k_is)
    (case a_is_name => k_is)
    (case l_is_name => k_is)
    (case c_is_name => k_is)
    (case k_is_name => k_is)
    (case a_is_amount => k_is)
    (case l_is_amount => k_is)
    (case c_is_amount => k_is)
    (case k_is_amount => k_is)
    (case a_are_ascending => k_is)
    (case l_are_ascending => k_is)
    (case c_are_ascending => k_is)
    (case k_are_ascending => k_is)
    (case a_are_arrays => k_is)
    (case l_are_arrays => k_is)
    (case c_are_arrays => k_is)
    (case k_are_arrays => k_is)
    (case a_is_access => k_is)
    (case l_is_access => k_is)
    (case c_is_access => k_is)
    (case k_is_access => k_is)
    (case a_is_statement => k_is)
    (case l_is_statement => k_is)
    (case c_is_statement => k_is)
    (case k_is_statement => k_is)
    (case a_are_loops => k_is)
    (case l_are_loops => k_is)
    (case c_are_loops => k_is)
    (case k_are_loops => k_is)
    (case a_are_outputs => k_is)
    (case l_are_outputs => k_is)
    (case c_are_outputs => k_is)
    (case k_are_outputs => k_is)
    (case a_all_writers => k_is)
    (case l_all_writers => k_is)
    (case c_all_writers => k_is)
    (case k_all_writers => k_is)
    (case a_all_reads => k_is)
    (case l_all_reads => k_is)
    (case c_all_reads => k_is)
    (case k_all_reads => k_is)
    (case a_first_out => k_is)
    (case l_first_out => k_is)
    (case c_first_out => k_is)
    (case k_first_out => k_is)
    (case a_at_most => k_is)
    (case l_at_most => k_is)
    (case c_at_most => k_is)
    (case k_at_most => k_is)
    (case a_last_step => k_is)
    (case l_last_step => k_is)
    (case c_last_step => k_is)
    (case k_last_step => k_is)
    (case a_meeting => k_is)
    (case l_meeting => k_is)
    (case c_meeting => k_is)
    (case k_meeting => k_is)
    (case a_first_met => k_is)
    (case l_first_met => k_is)
    (case c_first_met => k_is)
    (case k_first_met => k_is)
    (case a_Program_inputs => k_is)
    (case g_Program_inputs => k_is)
    (case t_Program_inputs => k_is)
    (case r_Program_inputs => k_is)
    (case l_Program_inputs => k_is)
    (case c_Program_inputs => k_is)
    (case k_Program_inputs => k_is)
    (case a_Program_size_of => k_is)
    (case i_Program_size_of => k_is)
    (case l_Program_size_of => k_is)
    (case c_Program_size_of => k_is)
    (case k_Program_size_of => k_is)
    (case a_Program___contains__ => k_is)
    (case i_Program___contains__ => k_is)
    (case l_Program___contains__ => k_is)
    (case c_Program___contains__ => k_is)
    (case k_Program___contains__ => k_is)
    (case a_check_bounds => k_is)
    (case l_check_bounds => k_is)
    (case c_check_bounds => k_is)
    (case k_check_bounds => k_is)
    (case a_check_writes => k_is)
    (case l_check_writes => k_is)
    (case c_check_writes => k_is)
    (case k_check_writes => k_is)
    (case a_check_uses => k_is)
    (case l_check_uses => k_is)
    (case c_check_uses => k_is)
    (case k_check_uses => k_is)
    (case a_Program___init__ => k_is)
    (case i_Program___init__ => k_is)
    (case l_Program___init__ => k_is)
    (case c_Program___init__ => k_is)
    (case k_Program___init__ => k_is)
    (case m_Program___init__ => k_is)
    (case a_Program___eq__ => k_is)
    (case i_Program___eq__ => k_is)
    (case l_Program___eq__ => k_is)
    (case c_Program___eq__ => k_is)
    (case k_Program___eq__ => k_is)
    (case a_is_layout => k_is)
    (case l_is_layout => k_is)
    (case c_is_layout => k_is)
    (case k_is_layout => k_is)
    (case a_low_high => k_is)
    (case l_low_high => k_is)
    (case c_low_high => k_is)
    (case k_low_high => k_is)
    (case a_are_places => k_is)
    (case l_are_places => k_is)
    (case c_are_places => k_is)
    (case k_are_places => k_is)
    (case a_Placement___init__ => k_is)
    (case i_Placement___init__ => k_is)
    (case l_Placement___init__ => k_is)
    (case c_Placement___init__ => k_is)
    (case k_Placement___init__ => k_is)
    (case a_Placement_apart => k_is)
    (case r_Placement_apart => k_is)
    (case j_Placement_apart => k_is)
    (case rd_Placement_apart => k_is)
    (case rg_Placement_apart => k_is)
    (case l_Placement_apart => k_is)
    (case c_Placement_apart => k_is)
    (case k_Placement_apart => k_is)
    (case a_Placement_size => k_is)
    (case g_Placement_size => k_is)
    (case t_Placement_size => k_is)
    (case r_Placement_size => k_is)
    (case l_Placement_size => k_is)
    (case c_Placement_size => k_is)
    (case k_Placement_size => k_is)
    (case a_Placement___eq__ => k_is)
    (case i_Placement___eq__ => k_is)
    (case l_Placement___eq__ => k_is)
    (case c_Placement___eq__ => k_is)
    (case k_Placement___eq__ => k_is)
    (case a_Placement_moved => k_is)
    (case i_Placement_moved => k_is)
    (case l_Placement_moved => k_is)
    (case c_Placement_moved => k_is)
    (case k_Placement_moved => k_is)
    (case a__law_pick => k_is)
    (case l__law_pick => k_is)
    (case c__law_pick => k_is)
    (case k__law_pick => k_is)
    (case a__law_names => k_is)
    (case l__law_names => k_is)
    (case c__law_names => k_is)
    (case k__law_names => k_is)
    (case a__law_size => k_is)
    (case l__law_size => k_is)
    (case c__law_size => k_is)
    (case k__law_size => k_is)
    (case a__law_program => k_is)
    (case l__law_program => k_is)
    (case c__law_program => k_is)
    (case k__law_program => k_is)
    (case a__law_great => k_is)
    (case l__law_great => k_is)
    (case c__law_great => k_is)
    (case k__law_great => k_is)
    (case a__law_places => k_is)
    (case l__law_places => k_is)
    (case c__law_places => k_is)
    (case k__law_places => k_is)
    (case a__law_turned => k_is)
    (case l__law_turned => k_is)
    (case c__law_turned => k_is)
    (case k__law_turned => k_is)
    (case a__law_placement => k_is)
    (case l__law_placement => k_is)
    (case c__law_placement => k_is)
    (case k__law_placement => k_is)
    (case a__law_moved => k_is)
    (case l__law_moved => k_is)
    (case c__law_moved => k_is)
    (case k__law_moved => k_is)
    (case a__law_pairs => k_is)
    (case l__law_pairs => k_is)
    (case c__law_pairs => k_is)
    (case k__law_pairs => k_is)
    (case a__law_right => k_is)
    (case l__law_right => k_is)
    (case c__law_right => k_is)
    (case k__law_right => k_is)
    (case a__law_apart_right => k_is)
    (case l__law_apart_right => k_is)
    (case c__law_apart_right => k_is)
    (case k__law_apart_right => k_is)
    (case a_law => k_is)
    (case l_law => k_is)
    (case c_law => k_is)
    (case k_law => k_is)
    (case z_GREATEST_RING => k_is)
    (case z_LARGEST => k_is)
    (case z_LETTERS => k_is)
    (case z_MOST_LOOPS => k_is)
    (case z_MOST_READS => k_is)
    (case z_MOST_STATEMENTS => k_is)
    (case z_OFFSETS => k_is)
    (case z_ROUND => k_is)
    (case b_all => k_is)
    (case b_bool => k_is)
    (case b_enumerate => k_is)
    (case b_int => k_is)
    (case b_isinstance => k_is)
    (case b_len => k_is)
    (case b_list => k_is)
    (case b_max => k_is)
    (case b_min => k_is)
    (case b_range => k_is)
    (case b_repr => k_is)
    (case b_sorted => k_is)
    (case b_str => k_is)
    (case b_tuple => k_is)
    (case b_zip => k_is)
    (case w1 => k_is)
    (case w2 => k_is)
    (case w3 => k_is)
    (case w4 => k_is)
    (case w5 => k_is)
    (case w6 => k_is)
    (case w7 => k_is)
    (case w8 => k_is)
    (case w9 => k_is)
    (case v1 => k_is)
    (case v2 => k_is)
    (case v3 => k_is)
    (case v4 => k_is)
    (case v5 => k_is)
    (case v6 => k_is)
    (case v7 => k_is)
    (case v8 => k_is)
    (case v9 => decide)
    (case x2 => k_is)
    (case x1 => k_exc)
    (case x3 => k_is)
    (case x4 => k_is)
    (case x5 => k_is)
    (case x6 => k_is)
    (case x7 => k_is)
    (case u1 => k_is)
    (case u2 => k_is)
    (case u3 => k_is)
    (case u4 => k_is)
    (case u5 => k_is)
    (case u6 => k_is)
    (case u7 => k_is)
    (case u8 => k_is)
    (case wA => k_is)
end
