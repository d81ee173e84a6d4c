import PyProof.Rows.All
import Wide.All
import OpenK.AllK
import Wide.FinOn
import HandS.ForMost
import HandS.ForExc
import HandS.Wide
import HandS.Deep
import HandS.TupAny
import HandS.Zip
import HandS.NoneIn
import HandS.Style
import KE.KDictKeyed
import KE.KDictLaw
import KE.KDictPairs
import HandS.Conv
import HandS.More
import HandS.Codes
import HandS.RaiseMore
import PyProof.ReprRoads
import HandS.Ends
import PySem.Challenge.RW_paceplan_k14_mixtures_told
set_option Elab.async false
set_option linter.all false
set_option autoImplicit false
set_option maxRecDepth 100000
set_option maxHeartbeats 1000000
/-! Data over the hand layer's heap: what a value stands for, lists and dicts by place, readings by data. -/
namespace Pz
open PySem PySem.Spec L2
open PyProof.Rows hiding St

inductive D where
  | non | bl (b : Bool) | int (i : Int) | str (x : Str) | ref (a : Addr) | ty (n : String) | tup (ds : List D) | fz (ds : List D) | ptup (ds : List D)
  deriving Inhabited

/-- the written part, the program and its world -/
structure KW where
  K : PySem.W.Frag
  P : Program
  w : World
abbrev kw (X : Cx) : KW := ⟨X.K, X.prog, X.w⟩
section
variable (K : KW) (H : Hp)
/-- a list that nothing writes -/
def SqF (a : Addr) (vs : List V) : Prop := (∃ ob, H a = some (.frz ob (.lst vs))) ∨ SqL K.K (fun _ => none) a vs
mutual
def Rp : D → V → Prop
  | .non, v => v = .non
  | .bl b, v => v = .bl b
  | .int i, v => v = .int i
  | .str x, v => v = .str x
  | .ref a, v => v = .ref a
  | .ty n, v => v = .ty n
  | .tup ds, v => ∃ a vs, v = .ref a ∧ SqT K.K H a vs ∧ Rps ds vs
  | .fz ds, v => ∃ a vs, v = .ref a ∧ SqF K H a vs ∧ Rps ds vs
  | .ptup ds, v => ∃ a vs o, v = .ref a ∧ (H a = some (.frz o (.tup vs)) ∧ o.cls = .type "tuple" ∧ o.dict = none) ∧ Rps ds vs
def Rps : List D → List V → Prop
  | [], vs => vs = []
  | d :: ds, vs => ∃ v r, vs = v :: r ∧ Rp d v ∧ Rps ds r
end
end

def Fix : HO → Prop
  | .tup _ => True
  | .frz _ (.lst _) => True
  | .frz _ (.tup _) => True
  | _ => False
def Stay (H H' : Hp) : Prop := ∀ a o, Fix o → H a = some o → H' a = some o
theorem Stay.refl (H : Hp) : Stay H H := fun _ _ _ h => h
theorem Stay.trans {H H1 H2 : Hp} (x : Stay H H1) (y : Stay H1 H2) : Stay H H2 := fun a o f h => y a o f (x a o f h)
theorem Stay.upd {H : Hp} {p : Addr} {o : HO} (h : ∀ u, H p = some u → ¬ Fix u) : Stay H (upd H p o) := fun a u f e => by
  by_cases ha : a = p
  · subst ha; exact absurd f (h u e)
  · rw [upd_ne ha]; exact e
theorem Stay.new {H : Hp} {p : Addr} {o : HO} (h : H p = none) : Stay H (L2.upd H p o) := Stay.upd fun u e => by rw [h] at e; cases e

section
variable {K : KW} {H H' : Hp}
theorem Stay.sqT {F : PySem.W.Frag} {a : Addr} {vs : List V} (s : Stay H H') (h : SqT F H a vs) : SqT F H' a vs := by
  rcases h with (h | ⟨o, h⟩) | h
  · exact .inl (.inl (s _ _ trivial h))
  · exact .inl (.inr ⟨o, s _ _ trivial h⟩)
  · exact .inr h
theorem Stay.sqF {a : Addr} {vs : List V} (s : Stay H H') (h : SqF K H a vs) : SqF K H' a vs := by
  rcases h with ⟨o, h⟩ | h
  · exact .inl ⟨o, s _ _ trivial h⟩
  · exact .inr h
theorem SqF.sqL {a : Addr} {vs : List V} (h : SqF K H a vs) : SqL K.K H a vs := by
  rcases h with ⟨o, h⟩ | h
  · exact .inl (.inr ⟨o, h⟩)
  · rcases h with (h | ⟨o, h⟩) | h
    · cases h
    · cases h
    · exact .inr h
mutual
theorem Rp.stay (s : Stay H H') : ∀ (d : D) (v : V), Rp K H d v → Rp K H' d v
  | .non, _, h => h
  | .bl _, _, h => h
  | .int _, _, h => h
  | .str _, _, h => h
  | .ref _, _, h => h
  | .ty _, _, h => h
  | .tup ds, _, ⟨a, vs, e, q, r⟩ => ⟨a, vs, e, s.sqT q, Rps.stay s ds vs r⟩
  | .fz ds, _, ⟨a, vs, e, q, r⟩ => ⟨a, vs, e, s.sqF q, Rps.stay s ds vs r⟩
  | .ptup ds, _, ⟨a, vs, o, e, q, r⟩ => ⟨a, vs, o, e, ⟨s _ _ trivial q.1, q.2⟩, Rps.stay s ds vs r⟩
theorem Rps.stay (s : Stay H H') : ∀ (ds : List D) (vs : List V), Rps K H ds vs → Rps K H' ds vs
  | [], _, h => h
  | d :: ds, _, ⟨v, r, e, q, qs⟩ => ⟨v, r, e, Rp.stay s d v q, Rps.stay s ds r qs⟩
end
def _root_.Pz.D.nrm : D → D
  | .ptup ds => .tup ds
  | d => d
theorem Rp.nrm {d : D} {v : V} (r : Rp K H d v) : Rp K H d.nrm v := by
  cases d with
  | ptup ds =>
    obtain ⟨a, vs, o, e, q, r⟩ := r
    exact ⟨a, vs, e, .inl (.inr ⟨o, q.1⟩), r⟩
  | non => exact r
  | bl _ => exact r
  | int _ => exact r
  | str _ => exact r
  | ref _ => exact r
  | ty _ => exact r
  | tup _ => exact r
  | fz _ => exact r
theorem Rps.length : ∀ {ds : List D} {vs : List V}, Rps K H ds vs → vs.length = ds.length
  | [], _, h => by rw [show _ = [] from h]; rfl
  | d :: ds, _, ⟨v, r, e, q, qs⟩ => by rw [e, List.length_cons, List.length_cons, Rps.length qs]
theorem Rps.append : ∀ {ds es : List D} {vs us : List V}, Rps K H ds vs → Rps K H es us → Rps K H (ds ++ es) (vs ++ us)
  | [], _, _, _, h, g => by rw [show _ = [] from h]; exact g
  | d :: ds, _, _, _, ⟨v, r, e, q, qs⟩, g => by rw [e]; exact ⟨v, _, rfl, q, Rps.append qs g⟩
theorem Rps.get : ∀ {ds : List D} {vs : List V} {i : Nat} {d : D}, Rps K H ds vs → ds[i]? = some d → ∃ v, vs[i]? = some v ∧ Rp K H d v
  | [], _, _, _, _, e => by simp at e
  | d :: ds, _, 0, x, ⟨v, r, e, q, qs⟩, ex => by simp at ex; subst ex; subst e; exact ⟨v, rfl, q⟩
  | d :: ds, _, i + 1, x, ⟨v, r, e, q, qs⟩, ex => by
    subst e
    obtain ⟨u, h1, h2⟩ := Rps.get (i := i) (d := x) qs (by simpa using ex)
    exact ⟨u, by simpa using h1, h2⟩
theorem Rps.getR : ∀ {ds : List D} {vs : List V} {i : Nat} {v : V}, Rps K H ds vs → vs[i]? = some v → ∃ d, ds[i]? = some d ∧ Rp K H d v
  | [], _, _, _, h, e => by rw [show _ = [] from h] at e; simp at e
  | d :: ds, _, 0, x, ⟨v, r, e, q, qs⟩, ex => by subst e; simp at ex; subst ex; exact ⟨d, rfl, q⟩
  | d :: ds, _, i + 1, x, ⟨v, r, e, q, qs⟩, ex => by
    subst e
    obtain ⟨u, h1, h2⟩ := Rps.getR (i := i) (v := x) qs (by simpa using ex)
    exact ⟨u, by simpa using h1, h2⟩
theorem Rps.set {d : D} {v : V} (q : Rp K H d v) : ∀ {ds : List D} {vs : List V} (i : Nat), Rps K H ds vs → Rps K H (ds.set i d) (vs.set i v)
  | [], _, _, h => by rw [show _ = [] from h]; exact rfl
  | d :: ds, _, 0, ⟨v, r, e, _, qs⟩ => by subst e; exact ⟨_, _, rfl, q, qs⟩
  | d :: ds, _, i + 1, ⟨v, r, e, q', qs⟩ => by subst e; exact ⟨_, _, rfl, q', Rps.set q i qs⟩
theorem Rps.drop : ∀ {ds : List D} {vs : List V} (n : Nat), Rps K H ds vs → Rps K H (ds.drop n) (vs.drop n)
  | _, _, 0, h => h
  | [], _, n + 1, h => by rw [show _ = [] from h]; exact rfl
  | d :: ds, _, n + 1, ⟨v, r, e, _, qs⟩ => by subst e; exact Rps.drop n qs
theorem Rps.take : ∀ {ds : List D} {vs : List V} (n : Nat), Rps K H ds vs → Rps K H (ds.take n) (vs.take n)
  | ds, vs, 0, h => by rw [List.take_zero, List.take_zero]; exact rfl
  | [], _, n + 1, h => by rw [show _ = [] from h]; exact rfl
  | d :: ds, _, n + 1, ⟨v, r, e, q, qs⟩ => by subst e; exact ⟨v, _, rfl, q, Rps.take n qs⟩
theorem Rps.ints : ∀ {ns : List Int} {vs : List V}, Rps K H (ns.map D.int) vs ↔ vs = ns.map V.int
  | [], _ => Iff.rfl
  | n :: ns, vs => by
    constructor
    · rintro ⟨v, r, rfl, q, qs⟩
      rw [show v = V.int n from q, Rps.ints.mp qs]; rfl
    · rintro rfl
      exact ⟨_, _, rfl, rfl, Rps.ints.mpr rfl⟩
theorem Rps.bls : ∀ {ns : List Bool} {vs : List V}, Rps K H (ns.map D.bl) vs ↔ vs = ns.map V.bl
  | [], _ => Iff.rfl
  | n :: ns, vs => by
    constructor
    · rintro ⟨v, r, rfl, q, qs⟩
      rw [show v = V.bl n from q, Rps.bls.mp qs]; rfl
    · rintro rfl
      exact ⟨_, _, rfl, rfl, Rps.bls.mpr rfl⟩
end

/-! ### what stands by place -/
inductive MO where
  | lst (ds : List D) | dic (kvs : List (D × D)) | dicL (kvs : List (D × D)) | ins (C : Addr) (fs : List (Str × D))
abbrev MH := Addr → Option MO
def updM (M : MH) (a : Addr) (o : MO) : MH := fun b => if b = a then some o else M b
theorem updM_same {M : MH} {a : Addr} {o : MO} : updM M a o a = some o := by unfold updM; rw [if_pos rfl]
theorem updM_ne {M : MH} {a b : Addr} {o : MO} (h : b ≠ a) : updM M a o b = M b := by unfold updM; rw [if_neg h]
theorem updM_upd {M : MH} {a : Addr} {o u : MO} : updM (updM M a o) a u = updM M a u := by
  funext b; unfold updM; split <;> rfl
mutual
def nk : D → Option NestedKey
  | .non => some .none
  | .int i => some (.num i)
  | .str x => some (.text x)
  | .tup ds => (nks ds).map .tup
  | .ptup ds => (nks ds).map .tup
  | _ => none
def nks : List D → Option (List NestedKey)
  | [] => some []
  | d :: r => match nk d, nks r with
    | some k, some ks => some (k :: ks)
    | _, _ => none
end
def kD : Key → D
  | .inl i => .int i
  | .inr x => .str x
section
variable (K : KW) (H : Hp)
def Rkv : List (D × D) → List (Key × V) → Prop
  | [], ks => ks = []
  | (k, d) :: r, ks => ∃ k' v s, ks = (k', v) :: s ∧ k = kD k' ∧ Rp K H d v ∧ Rkv r s
/-- a key that is nested of tuples, texts, numbers -/
def RkvN : List (D × D) → List (NestedKey × Addr × Value) → Prop
  | [], xs => xs = []
  | (k, d) :: r, xs => ∃ n b u v s, xs = (n, b, u) :: s ∧ nk k = some n ∧ n.depth ≤ 8 ∧ Rp K H k (.ref b) ∧ RelV v u ∧ Rp K H d v ∧ RkvN r s
def Rdic (a : Addr) (u : HO) (kvs : List (D × D)) : Prop := (∃ ks, u = .dK ks ∧ Rkv K H kvs ks) ∨
  ∃ (o : Obj) (es : Array DictEntry) (ep : Nat) (xs : List (NestedKey × Addr × Value)), u = .ext (fun h => h.get? a = some o) ∧ o.ExactDict ∧ o.data = .dict es ep ∧ es.toList = xs.map (entryOfKey (nestedKind K.P K.w)) ∧ (xs.map (·.1)).Nodup ∧ RkvN K H kvs xs ∧ (a == sysModules) = false ∧ xs.length ≤ sizeLine
def Ro (a : Addr) : MO → Prop
  | .lst ds => ∃ vs, H a = some (.lst vs) ∧ Rps K H ds vs
  | .dic kvs => ∃ u, H a = some u ∧ Rdic K H a u kvs
  | .dicL kvs => ∃ o u, H a = some (.frz o u) ∧ Rdic K H a u kvs
  | .ins C fs => ∃ dx vfs, H a = some (.ins C dx vfs) ∧ vfs.map (·.1) = fs.map (·.1) ∧ Rps K H (fs.map (·.2)) (vfs.map (·.2))
def RelM (M : MH) : Prop := ∀ a o, M a = some o → Ro K H a o
end
section
variable {K : KW} {H H' : Hp} {M : MH}
theorem Rkv.stay (s : Stay H H') : ∀ {kvs : List (D × D)} {ks : List (Key × V)}, Rkv K H kvs ks → Rkv K H' kvs ks
  | [], _, h => h
  | (k, d) :: r, _, ⟨k', v, t, e, ek, q, qs⟩ => ⟨k', v, t, e, ek, Rp.stay s d v q, Rkv.stay s qs⟩
theorem RkvN.stay (s : Stay H H') : ∀ {kvs : List (D × D)} {xs : List (NestedKey × Addr × Value)}, RkvN K H kvs xs → RkvN K H' kvs xs
  | [], _, h => h
  | (k, d) :: r, _, ⟨n, b, u, v, t, e, ek, dp, q1, rv, q, qs⟩ => ⟨n, b, u, v, t, e, ek, dp, Rp.stay s k _ q1, rv, Rp.stay s d v q, RkvN.stay s qs⟩
theorem Rdic.stay (s : Stay H H') {a : Addr} {u : HO} {kvs : List (D × D)} : Rdic K H a u kvs → Rdic K H' a u kvs
  | .inl ⟨ks, e, r⟩ => .inl ⟨ks, e, r.stay s⟩
  | .inr ⟨o, es, ep, xs, e, x1, x2, x3, x4, r, x5⟩ => .inr ⟨o, es, ep, xs, e, x1, x2, x3, x4, r.stay s, x5⟩
theorem Ro.stay (s : Stay H H') {a : Addr} (e : H' a = H a) : ∀ {o : MO}, Ro K H a o → Ro K H' a o
  | .lst ds, ⟨vs, h, r⟩ => ⟨vs, e.trans h, Rps.stay s ds vs r⟩
  | .dic kvs, ⟨u, h, r⟩ => ⟨u, e.trans h, r.stay s⟩
  | .dicL kvs, ⟨o, u, h, r⟩ => ⟨o, u, e.trans h, r.stay s⟩
  | .ins C fs, ⟨dx, vfs, h, n, r⟩ => ⟨dx, vfs, e.trans h, n, Rps.stay s _ _ r⟩
theorem Ro.there {a : Addr} : ∀ {o : MO}, Ro K H a o → ∃ u, H a = some u ∧ ¬ Fix u
  | .lst ds, ⟨vs, h, r⟩ => ⟨_, h, fun z => z⟩
  | .dic kvs, ⟨u, h, r⟩ => ⟨_, h, by rcases r with ⟨_, rfl, _⟩ | ⟨_, _, _, _, rfl, _⟩ <;> exact fun z => z⟩
  | .dicL kvs, ⟨o, u, h, r⟩ => ⟨_, h, by rcases r with ⟨_, rfl, _⟩ | ⟨_, _, _, _, rfl, _⟩ <;> exact fun z => z⟩
  | .ins C fs, ⟨dx, vfs, h, n, r⟩ => ⟨_, h, fun z => z⟩
theorem RelM.free (m : RelM K H M) {p : Addr} (h : H p = none) : M p = none := by
  cases e : M p with
  | none => rfl
  | some o => obtain ⟨u, hu, _⟩ := (m p o e).there; rw [h] at hu; cases hu
theorem RelM.nofix (m : RelM K H M) {p : Addr} {o : MO} (h : M p = some o) : ∀ u, H p = some u → ¬ Fix u := fun u hu => by
  obtain ⟨u', hu', nf⟩ := (m p o h).there
  rw [hu] at hu'; cases hu'; exact nf
theorem RelM.upd (m : RelM K H M) {p : Addr} {o : HO} {o' : MO} (hp : ∀ u, H p = some u → ¬ Fix u) (new : Ro K (L2.upd H p o) p o') : RelM K (L2.upd H p o) (updM M p o') := fun a u e => by
  by_cases ha : a = p
  · subst ha; rw [updM_same] at e; cases e; exact new
  · rw [updM_ne ha] at e
    exact (m a u e).stay (Stay.upd hp) (upd_ne ha)
/-- a thing that is not carried by place comes -/
theorem RelM.add (m : RelM K H M) {p : Addr} {o : HO} (hp : H p = none) : RelM K (L2.upd H p o) M := fun a u e => by
  have ha : a ≠ p := by
    rintro rfl
    obtain ⟨u', hu, _⟩ := (m a u e).there
    rw [hp] at hu; cases hu
  exact (m a u e).stay (Stay.new hp) (upd_ne ha)
theorem RelM.newL (m : RelM K H M) {p : Addr} {vs : List V} {ds : List D} (hp : H p = none) (r : Rps K H ds vs) : RelM K (L2.upd H p (.lst vs)) (updM M p (.lst ds)) :=
  m.upd (fun u e => by rw [hp] at e; cases e) ⟨vs, upd_same, Rps.stay (Stay.new hp) _ _ r⟩
theorem RelM.setL (m : RelM K H M) {p : Addr} {o : MO} {vs : List V} {ds : List D} (hp : M p = some o) (r : Rps K H ds vs) : RelM K (L2.upd H p (.lst vs)) (updM M p (.lst ds)) :=
  m.upd (m.nofix hp) ⟨vs, upd_same, Rps.stay (Stay.upd (m.nofix hp)) _ _ r⟩
theorem RelM.list (m : RelM K H M) {p : Addr} {ds : List D} (h : M p = some (.lst ds)) : ∃ vs, H p = some (.lst vs) ∧ Rps K H ds vs := m p _ h
end

/-! ### readings by data -/
/-- what is not carried by place is as it was -/
def Go (H : Hp) (M : MH) (H' : Hp) (M' : MH) : Prop := ∀ a u, H a = some u → M a = none → H' a = some u ∧ M' a = none
theorem Go.refl (H : Hp) (M : MH) : Go H M H M := fun _ _ h n => ⟨h, n⟩
theorem Go.trans {H H1 H2 : Hp} {M M1 M2 : MH} (x : Go H M H1 M1) (y : Go H1 M1 H2 M2) : Go H M H2 M2 := fun a u h n => let ⟨h1, n1⟩ := x a u h n; y a u h1 n1
theorem Go.stay {K : KW} {H H' : Hp} {M M' : MH} (g : Go H M H' M') (m : RelM K H M) : Stay H H' := fun a o f h => by
  refine (g a o h ?_).1
  cases e : M a with
  | none => rfl
  | some u => exact absurd f (m.nofix e o h)
theorem Go.newT {H : Hp} {M : MH} {p : Addr} {o : HO} (hp : H p = none) : Go H M (L2.upd H p o) M := fun a u h n => ⟨by rw [upd_ne (ne_of_none h hp)]; exact h, n⟩
theorem Go.newL {H : Hp} {M : MH} {p : Addr} {o : HO} {o' : MO} (hp : H p = none) : Go H M (L2.upd H p o) (updM M p o') := fun a u h n => ⟨by rw [upd_ne (ne_of_none h hp)]; exact h, by rw [updM_ne (ne_of_none h hp)]; exact n⟩
theorem Go.setL {H : Hp} {M : MH} {p : Addr} {o : HO} {x o' : MO} (hp : M p = some x) : Go H M (L2.upd H p o) (updM M p o') := fun a u h n => by
  have ne : a ≠ p := by rintro rfl; rw [hp] at n; cases n
  exact ⟨by rw [upd_ne ne]; exact h, by rw [updM_ne ne]; exact n⟩
abbrev Ev := List (Option D)
abbrev Pt := D → MH → Prop
abbrev Wp := Ev → MH → Pt → Prop
abbrev Wps := Ev → MH → (List D → MH → Prop) → Prop

/-- what holds of heap and data from some place on -/
structure Cl where
  p : Hp → MH → Prop
  up : ∀ {H M H' M'}, p H M → Go H M H' M' → p H' M'
structure Rl (K : KW) (S : Cl) (σ : St) (H : Hp) (ρ : Ev) (M : MH) : Prop where
  len : σ.length = ρ.length
  e : ∀ (i : Nat) (d : D), ρ[i]? = some (some d) → ∃ v, σ[i]? = some (some v) ∧ Rp K H d v
  m : RelM K H M
  st : S.p H M
theorem Rl.go {K : KW} {S : Cl} {σ : St} {H H' : Hp} {ρ : Ev} {M M' : MH} (r : Rl K S σ H ρ M) (g : Go H M H' M') (m : RelM K H' M') : Rl K S σ H' ρ M' :=
  ⟨r.len, fun i d h => let ⟨v, h1, h2⟩ := r.e i d h; ⟨v, h1, Rp.stay (g.stay r.m) d v h2⟩, m, S.up r.st g⟩
theorem Rl.set {K : KW} {S : Cl} {σ : St} {H : Hp} {ρ : Ev} {M : MH} (r : Rl K S σ H ρ M) {d : D} {v : V} (q : Rp K H d v) (i : Nat) : Rl K S (σ.set i (some v)) H (ρ.set i (some d)) M := by
  refine ⟨by rw [List.length_set, List.length_set]; exact r.len, fun j x h => ?_, r.m, r.st⟩
  by_cases hj : i = j
  · subst hj
    have hlt : i < ρ.length := by
      rcases Nat.lt_or_ge i ρ.length with h' | h'
      · exact h'
      · rw [List.getElem?_eq_none (by simpa using h')] at h; cases h
    rw [List.getElem?_set_self hlt] at h
    cases h
    exact ⟨v, by rw [List.getElem?_set_self (by rw [r.len]; exact hlt)], q⟩
  · rw [List.getElem?_set_ne hj] at h ⊢
    exact r.e j x h

/-- what is wanted of a value and the heap, from data -/
structure Wn (K : KW) (H : Hp) (M : MH) (Qm : Pt) (Q : VK) : Prop where
  run : ∀ v H' d M', Rp K H' d v → Go H M H' M' → RelM K H' M' → Qm d M' → Q v H'
theorem Wn.of {K : KW} {H H' : Hp} {M M' : MH} {Qm : Pt} {Q : VK} (k : Wn K H M Qm Q) (s : Go H M H' M') : Wn K H' M' Qm Q := ⟨fun v H2 d M2 r s2 m q => k.run v H2 d M2 r (s.trans s2) m q⟩
def lt (K : KW) (S : Cl) (w : Wp) : TE := fun σ H Q => ∃ ρ M Qm, Rl K S σ H ρ M ∧ w ρ M Qm ∧ Wn K H M Qm Q
def ltt (K : KW) (S : Cl) (w : Wp) : TT := fun σ H Q => ∃ (ρ : Ev) (M : MH) (Qm : Bool → MH → Prop), Rl K S σ H ρ M ∧ w ρ M (fun d M' => ∃ b, d = .bl b ∧ Qm b M') ∧ ∀ b H' M', Go H M H' M' → RelM K H' M' → Qm b M' → Q b H'
def lts (K : KW) (S : Cl) (w : Wps) : TA := fun σ H Q => ∃ (ρ : Ev) (M : MH) (Qm : List D → MH → Prop), Rl K S σ H ρ M ∧ w ρ M Qm ∧ ∀ vs H' ds M', Rps K H' ds vs → Go H M H' M' → RelM K H' M' → Qm ds M' → Q vs H'
abbrev SE (X : Cx) (S : Cl) (e : Expr) (w : Wp) : Prop := PE X e (lt (kw X) S w)
abbrev ST (X : Cx) (S : Cl) (e : Expr) (w : Wp) : Prop := PT X e (ltt (kw X) S w)
abbrev SW (X : Cx) (S : Cl) (e : Expr) (w : Wp) : Prop := PW X e (ltt (kw X) S w)
abbrev SA (X : Cx) (S : Cl) (es : List Expr) (w : Wps) : Prop := PA X es (lts (kw X) S w)
theorem PE.imp' {X : Cx} {e : Expr} {t t' : TE} (h : PE X e t) (k : ∀ σ H Q, t' σ H Q → t σ H Q) : PE X e t' := ⟨fun pins s σ H Q I q => h.run pins s σ H Q I (k σ H Q q)⟩
theorem PT.imp' {X : Cx} {e : Expr} {t t' : TT} (h : PT X e t) (k : ∀ σ H Q, t' σ H Q → t σ H Q) : PT X e t' := ⟨fun pins s σ H Q I q => h.run pins s σ H Q I (k σ H Q q)⟩
theorem PW.imp' {X : Cx} {e : Expr} {t t' : TT} (h : PW X e t) (k : ∀ σ H Q, t' σ H Q → t σ H Q) : PW X e t' := ⟨fun wh pins s σ H Q I q => h.run wh pins s σ H Q I (k σ H Q q)⟩
theorem PA.imp' {X : Cx} {es : List Expr} {t t' : TA} (h : PA X es t) (k : ∀ σ H Q, t' σ H Q → t σ H Q) : PA X es t' := ⟨fun pos pins s σ H Q I q => h.run pos pins s σ H Q I (k σ H Q q)⟩

/-! ### the weakest conditions of the small expressions -/
def wVar (i : Nat) : Wp := fun ρ M Q => match ρ[i]? with | some (some d) => Q d M | _ => False
def wLit (d : D) : Wp := fun _ M Q => Q d M
abbrev Op := D → D → MH → Pt → Prop
def wBin (o : Op) (a b : Wp) : Wp := fun ρ M Q => a ρ M fun x M1 => b ρ M1 fun y M2 => o x y M2 Q
def wUn (o : D → MH → Pt → Prop) (a : Wp) : Wp := fun ρ M Q => a ρ M fun x M1 => o x M1 Q
def isB (d : D) (k : Bool → Prop) : Prop := match d with | .bl b => k b | _ => False
theorem isB.of {d : D} {k : Bool → Prop} (h : isB d k) : ∃ b, d = .bl b ∧ k b := by cases d <;> first | exact h.elim | exact ⟨_, rfl, h⟩
def wAnd (a b : Wp) : Wp := fun ρ M Q => a ρ M fun x M1 => isB x fun c => if c = true then b ρ M1 Q else Q (.bl false) M1
def wOr (a b : Wp) : Wp := fun ρ M Q => a ρ M fun x M1 => isB x fun c => if c = true then Q (.bl true) M1 else b ρ M1 Q
def wNot (a : Wp) : Wp := fun ρ M Q => a ρ M fun x M1 => isB x fun c => Q (.bl (!c)) M1
def wIf (c a b : Wp) : Wp := fun ρ M Q => c ρ M fun x M1 => isB x fun k => if k = true then a ρ M1 Q else b ρ M1 Q
def wNil : Wps := fun _ M Q => Q [] M
def wCons (a : Wp) (r : Wps) : Wps := fun ρ M Q => a ρ M fun x M1 => r ρ M1 fun xs M2 => Q (x :: xs) M2
def wTup (a : Wps) : Wp := fun ρ M Q => a ρ M fun ds M1 => ds.length ≤ sizeLine ∧ Q (.tup ds) M1
def wLst (a : Wps) : Wp := fun ρ M Q => a ρ M fun ds M1 => ds.length ≤ sizeLine ∧ ∀ p, M1 p = none → Q (.ref p) (updM M1 p (.lst ds))

section
variable {X : Cx} {S : Cl} {a b c : Expr} {wa wb wc : Wp} {pos : Pos} {es rest : List Expr} {ws : Wps}
theorem se_var {i : Nat} {x : Str} (hN : X.N[i]? = some x) (hv : Vis X.env.scope x) (hd : (x == ("__debug__" : Str)) = false) (hcd : (x == ("__classdict__" : Str)) = false) : SE X S (.Name x pos) (wVar i) :=
  PE.imp' (pe_var hN hv hd hcd) fun σ H Q ⟨ρ, M, Qm, r, h, k⟩ => by
    unfold wVar at h
    split at h
    · rename_i d e
      obtain ⟨v, h1, h2⟩ := r.e i d e
      exact ⟨v, h1, k.run _ _ _ _ h2 (Go.refl H M) r.m h⟩
    · exact h.elim
theorem se_lit {e : Expr} {v : V} {d : D} (h : PE X e (tC v)) (hr : ∀ H, Rp (kw X) H d v) : SE X S e (wLit d) :=
  PE.imp' h fun σ H Q ⟨ρ, M, Qm, r, h, k⟩ => k.run _ _ _ _ (hr H) (Go.refl H M) r.m h
/-- an operation by data -/
def OD (X : Cx) (f : Value → Value → Sem Value) (o : Op) : Prop := OpR X f fun x y H Q => ∃ dx dy M Qm, Rp (kw X) H dx x ∧ Rp (kw X) H dy y ∧ RelM (kw X) H M ∧ o dx dy M Qm ∧ Wn (kw X) H M Qm Q
def UD (X : Cx) (f : Value → Sem Value) (o : D → MH → Pt → Prop) : Prop := UnR X f fun x H Q => ∃ dx M Qm, Rp (kw X) H dx x ∧ RelM (kw X) H M ∧ o dx M Qm ∧ Wn (kw X) H M Qm Q
def CD (X : Cx) (f : Value) (o : List D → MH → Pt → Prop) : Prop := CallR X f fun xs H Q => ∃ ds M Qm, Rps (kw X) H ds xs ∧ RelM (kw X) H M ∧ o ds M Qm ∧ Wn (kw X) H M Qm Q
theorem two {σ : St} {H : Hp} {o : Op} {Q : VK} (h : lt (kw X) S (wBin o wa wb) σ H Q) :
    tOp (fun x y H Q => ∃ dx dy M Qm, Rp (kw X) H dx x ∧ Rp (kw X) H dy y ∧ RelM (kw X) H M ∧ o dx dy M Qm ∧ Wn (kw X) H M Qm Q) (lt (kw X) S wa) (lt (kw X) S wb) σ H Q := by
  obtain ⟨ρ, M, Qm, r, h, k⟩ := h
  refine ⟨ρ, M, _, r, h, ⟨fun v H1 d M1 q s m h1 => ?_⟩⟩
  refine ⟨ρ, M1, _, r.go s m, h1, ⟨fun v2 H2 d2 M2 q2 s2 m2 h2 => ?_⟩⟩
  exact ⟨d, d2, M2, Qm, Rp.stay (s2.stay m) _ _ q, q2, m2, h2, k.of (s.trans s2)⟩
theorem se_bin {op : Operator} {o : Op} (ho : OD X (binaryOp op) o) (ha : SE X S a wa) (hb : SE X S b wb) : SE X S (.BinOp a op b pos) (wBin o wa wb) := PE.imp' (pe_op ho ha hb) fun _ _ _ h => two h
theorem se_cmp {op : CmpOp} {o : Op} (ho : OD X (compareOp op) o) (ha : SE X S a wa) (hb : SE X S b wb) (hm : behindInMarks op b = false) : SE X S (.Compare a [op] [b] pos) (wBin o wa wb) := PE.imp' (pe_cmpR ho ha hb hm) fun _ _ _ h => two h
theorem se_un {op : UnaryOp} {o : D → MH → Pt → Prop} (ho : UD X (unaryOp op) o) (ha : SE X S a wa) : SE X S (.UnaryOp op a pos) (wUn o wa) :=
  PE.imp' (pe_un ho ha) fun σ H Q ⟨ρ, M, Qm, r, h, k⟩ => ⟨ρ, M, _, r, h, ⟨fun v H1 d M1 q s m h1 => ⟨d, M1, Qm, q, m, h1, k.of s⟩⟩⟩
theorem tt_of {σ : St} {H : Hp} {w : Wp} {Q : Bool → Hp → Prop} (h : ltt (kw X) S w σ H Q) : lt (kw X) S w σ H fun x H' => ∃ b, x = .bl b ∧ Q b H' := by
  obtain ⟨ρ, M, Qm, r, h, k⟩ := h
  refine ⟨ρ, M, _, r, h, ⟨fun v H1 d M1 q s m h1 => ?_⟩⟩
  obtain ⟨b, rfl, h1⟩ := h1
  exact ⟨b, q, k b H1 M1 s m h1⟩
theorem st_cmp {op : CmpOp} {o : Op} (ho : OD X (compareOp op) o) (ha : SE X S a wa) (hb : SE X S b wb) (hm : behindInMarks op b = false) : ST X S (.Compare a [op] [b] pos) (wBin o wa wb) :=
  PT.imp' (pt_cmpR ho ha hb hm) fun σ H Q h => two (tt_of h)
theorem st_val {e : Expr} {w : Wp} (h : SE X S e w) (he : ∀ whole, isTrue e X.env whole = (do let v ← whole; standAt e.pos; holding [v] (truthy v))) : ST X S e w :=
  PT.imp' (pt_val h he) fun σ H Q h => tt_of h
theorem st_not (ha : ST X S a wa) : ST X S (.UnaryOp .Not a pos) (wNot wa) :=
  PT.imp' (pt_not ha) fun σ H Q ⟨ρ, M, Qm, r, h, k⟩ => ⟨ρ, M, fun b M' => Qm (!b) M', r, by
    unfold wNot at h
    -- the shape of what is wanted
    have e : (fun (x : D) (M1 : MH) => isB x fun c => (fun d M' => ∃ b, d = D.bl b ∧ Qm b M') (.bl (!c)) M1) = fun d M' => ∃ b, d = .bl b ∧ Qm (!b) M' := by
      funext x M1
      apply propext
      constructor
      · intro z
        obtain ⟨b, rfl, b', e, q⟩ := z.of
        cases e; exact ⟨b, rfl, q⟩
      · rintro ⟨b, rfl, q⟩
        exact ⟨!b, rfl, q⟩
    rw [e] at h; exact h, fun b H' M' s m q => k (!b) H' M' s m q⟩
theorem lt_cut {σ : St} {H : Hp} {Q : VK} {w : Wp} {ρ : Ev} {M : MH} {Qm : Pt} (r : Rl (kw X) S σ H ρ M) (h : w ρ M Qm) (k : Wn (kw X) H M Qm Q) : lt (kw X) S w σ H Q := ⟨ρ, M, Qm, r, h, k⟩
theorem se_and1 {op : BoolOp} (ha : SE X S a wa) : SE X S (.BoolOp op [a] pos) wa := pe_one ha
theorem se_and (ha : SE X S a wa) (hb : SE X S (.BoolOp .And (b :: rest) pos) wb) : SE X S (.BoolOp .And (a :: b :: rest) pos) (wAnd wa wb) :=
  PE.imp' (pe_and ha hb) fun σ H Q ⟨ρ, M, Qm, r, h, k⟩ => ⟨ρ, M, _, r, h, ⟨fun v H1 d M1 q s m h1 => by
    obtain ⟨c, rfl, h1⟩ := isB.of h1
    refine ⟨c, q, ?_⟩
    cases c with
    | true => exact ⟨ρ, M1, Qm, r.go s m, h1, k.of s⟩
    | false => exact k.run _ _ (.bl false) M1 rfl s m h1⟩⟩
theorem se_or (ha : SE X S a wa) (hb : SE X S (.BoolOp .Or (b :: rest) pos) wb) : SE X S (.BoolOp .Or (a :: b :: rest) pos) (wOr wa wb) :=
  PE.imp' (pe_or ha hb) fun σ H Q ⟨ρ, M, Qm, r, h, k⟩ => ⟨ρ, M, _, r, h, ⟨fun v H1 d M1 q s m h1 => by
    obtain ⟨c, rfl, h1⟩ := isB.of h1
    refine ⟨c, q, ?_⟩
    cases c with
    | false => exact ⟨ρ, M1, Qm, r.go s m, h1, k.of s⟩
    | true => exact k.run _ _ (.bl true) M1 rfl s m h1⟩⟩
theorem se_not (ha : SE X S a wa) : SE X S (.UnaryOp .Not a pos) (wNot wa) :=
  PE.imp' (pe_not ha) fun σ H Q ⟨ρ, M, Qm, r, h, k⟩ => ⟨ρ, M, _, r, h, ⟨fun v H1 d M1 q s m h1 => by
    obtain ⟨c, rfl, h1⟩ := isB.of h1
    exact ⟨c, q, k.run _ _ (.bl (!c)) M1 rfl s m h1⟩⟩⟩
theorem sw_of (h : ST X S a wa) {op : BoolOp} : SW X S (.BoolOp op [a] pos) wa := by
  cases op
  · exact pw_and1 h
  · exact pw_or1 h
/-- from a test to what follows it -/
theorem tst {σ : St} {H : Hp} {w : Wp} {ρ : Ev} {M : MH} {f : Bool → MH → Prop} (r : Rl (kw X) S σ H ρ M) (h : w ρ M fun x M1 => isB x fun c => f c M1) {Q : Bool → Hp → Prop}
    (k : ∀ c H' M', Go H M H' M' → RelM (kw X) H' M' → f c M' → Q c H') : ltt (kw X) S w σ H Q := by
  refine ⟨ρ, M, f, r, ?_, k⟩
  have e : (fun (x : D) (M1 : MH) => isB x fun c => f c M1) = fun d M' => ∃ b, d = .bl b ∧ f b M' := by
    funext x M1
    apply propext
    constructor
    · intro z
      obtain ⟨b, rfl, q⟩ := z.of
      exact ⟨b, rfl, q⟩
    · rintro ⟨b, rfl, q⟩
      exact q
  rw [e] at h; exact h
theorem sw_and (ha : ST X S a wa) (hb : SW X S (.BoolOp .And (b :: rest) pos) wb) : SW X S (.BoolOp .And (a :: b :: rest) pos) (wAnd wa wb) :=
  PW.imp' (pw_and ha hb) fun σ H Q ⟨ρ, M, Qm, r, h, k⟩ => tst r h fun c H' M' s m q => by
    cases c with
    | true => exact ⟨ρ, M', Qm, r.go s m, q, fun b H2 M2 s2 m2 q2 => k b H2 M2 (s.trans s2) m2 q2⟩
    | false =>
      obtain ⟨b, e, q⟩ := q
      cases e
      exact k false H' M' s m q
theorem sw_or (ha : ST X S a wa) (hb : SW X S (.BoolOp .Or (b :: rest) pos) wb) : SW X S (.BoolOp .Or (a :: b :: rest) pos) (wOr wa wb) :=
  PW.imp' (pw_or ha hb) fun σ H Q ⟨ρ, M, Qm, r, h, k⟩ => tst r h fun c H' M' s m q => by
    cases c with
    | false => exact ⟨ρ, M', Qm, r.go s m, q, fun b H2 M2 s2 m2 q2 => k b H2 M2 (s.trans s2) m2 q2⟩
    | true =>
      obtain ⟨b, e, q⟩ := q
      cases e
      exact k true H' M' s m q
theorem se_ifE (hc : ST X S c wc) (ha : SE X S a wa) (hb : SE X S b wb) : SE X S (.IfExp c a b pos) (wIf wc wa wb) :=
  PE.imp' (pe_ifExp hc ha hb) fun σ H Q ⟨ρ, M, Qm, r, h, k⟩ => tst r h fun c H' M' s m q => by
    cases c with
    | false => exact ⟨ρ, M', Qm, r.go s m, q, k.of s⟩
    | true => exact ⟨ρ, M', Qm, r.go s m, q, k.of s⟩
theorem sa_nil : SA X S [] wNil := PA.imp' pa_nil fun σ H Q ⟨ρ, M, Qm, r, h, k⟩ => k [] H [] M rfl (Go.refl H M) r.m h
theorem sa_cons (ha : SE X S a wa) (hr : SA X S es ws) (hs : starEach (a :: es) X.env = (false, eval a X.env) :: starEach es X.env) : SA X S (a :: es) (wCons wa ws) :=
  PA.imp' (pa_cons ha hr hs) fun σ H Q ⟨ρ, M, Qm, r, h, k⟩ => ⟨ρ, M, _, r, h, ⟨fun v H1 d M1 q s m h1 => ⟨ρ, M1, _, r.go s m, h1, fun vs H2 ds M2 q2 s2 m2 h2 =>
    k (v :: vs) H2 (d :: ds) M2 ⟨v, vs, rfl, Rp.stay (s2.stay m) _ _ q, q2⟩ (s.trans s2) m2 h2⟩⟩⟩
theorem se_tup {x1 : Nat} (h : SA X S es ws) : SE X S (.Tuple es x1 pos) (wTup ws) :=
  PE.imp' (pe_tup h) fun σ H Q ⟨ρ, M, Qm, r, h, k⟩ => ⟨ρ, M, _, r, h, fun vs H1 ds M1 q s m h1 => by
    refine ⟨by rw [q.length]; exact h1.1, fun p hp => ?_⟩
    exact k.run _ _ (.tup ds) M1 ⟨p, vs, rfl, .inl (.inl upd_same), Rps.stay (Stay.new hp) _ _ q⟩ (s.trans (Go.newT hp)) (m.add hp) h1.2⟩
theorem se_lst (h : SA X S es ws) : SE X S (.List es pos) (wLst ws) :=
  PE.imp' (pe_lst h) fun σ H Q ⟨ρ, M, Qm, r, h, k⟩ => ⟨ρ, M, _, r, h, fun vs H1 ds M1 q s m h1 => by
    refine ⟨by rw [q.length]; exact h1.1, fun p hp => ?_⟩
    exact k.run _ _ (.ref p) _ rfl (s.trans (Go.newL hp)) (m.newL hp q) (h1.2 p (m.free hp))⟩
end
end Pz


set_option Elab.async false
set_option linter.all false
set_option autoImplicit false
set_option maxRecDepth 100000
set_option maxHeartbeats 1000000
/-! Operations by data. -/
namespace Pz
open PySem PySem.Spec L2
open PyProof.Rows hiding St

/-! ### data without places, for comparisons and texts -/
def mapO {α β : Type} (f : α → Option β) : List α → Option (List β)
  | [] => some []
  | x :: r => match f x, mapO f r with
    | some y, some s => some (y :: s)
    | _, _ => none
def pyD (M : MH) : Nat → D → Option PyData
  | 0, _ => none
  | n + 1, d => match d with
    | .non => some .none
    | .bl b => some (.bool b)
    | .int i => some (.int i)
    | .str x => some (.str x)
    | .ty _ => none
    | .ref a => match M a with
      | some (.lst ds) => (mapO (pyD M n) ds).map .list
      | _ => none
    | .tup ds => (mapO (pyD M n) ds).map .tuple
    | .fz ds => (mapO (pyD M n) ds).map .list
    | .ptup ds => (mapO (pyD M n) ds).map .tuple
theorem dpAll_of {K : KW} {H : Hp} {f : D → Option PyData} (hf : ∀ d v p, Rp K H d v → f d = some p → Dp K.K H v p) : ∀ {ds : List D} {vs : List V} {ps : List PyData}, Rps K H ds vs → mapO f ds = some ps → DpAll K.K H vs ps
  | [], _, _, h, e => by
    rw [show _ = [] from h]
    cases e; exact .nil
  | d :: ds, _, ps, ⟨v, r, e, q, qs⟩, ep => by
    subst e
    unfold mapO at ep
    split at ep
    · rename_i y s h1 h2
      cases ep
      exact .cons (hf d v y q h1) (dpAll_of hf qs h2)
    · cases ep
theorem dp_of {K : KW} {H : Hp} {M : MH} (m : RelM K H M) : ∀ (n : Nat) (d : D) (v : V) (p : PyData), Rp K H d v → pyD M n d = some p → Dp K.K H v p
  | 0, _, _, _, _, e => by cases e
  | n + 1, d, v, p, r, e => by
    unfold pyD at e
    cases d with
    | non => cases e; rw [show v = .non from r]; exact .non
    | bl b => cases e; rw [show v = .bl b from r]; exact .bl b
    | int i => cases e; rw [show v = .int i from r]; exact .int i
    | str x => cases e; rw [show v = .str x from r]; exact .str x
    | ty x => cases e
    | ref a =>
      simp only at e
      split at e
      · rename_i ds ha
        obtain ⟨ps, h1, h2⟩ := Option.map_eq_some_iff.mp e
        obtain ⟨vs, h3, h4⟩ := m.list ha
        rw [show v = .ref a from r, ← h2]
        exact .lst (SqL.of h3) (dpAll_of (dp_of m n) h4 h1)
      · cases e
    | tup ds =>
      obtain ⟨ps, h1, h2⟩ := Option.map_eq_some_iff.mp e
      obtain ⟨a, vs, rfl, h3, h4⟩ := r
      rw [← h2]
      exact .tup h3 (dpAll_of (dp_of m n) h4 h1)
    | fz ds =>
      obtain ⟨ps, h1, h2⟩ := Option.map_eq_some_iff.mp e
      obtain ⟨a, vs, rfl, h3, h4⟩ := r
      rw [← h2]
      exact .lst h3.sqL (dpAll_of (dp_of m n) h4 h1)
    | ptup ds =>
      obtain ⟨ps, h1, h2⟩ := Option.map_eq_some_iff.mp e
      obtain ⟨a, vs, o, rfl, h3, h4⟩ := r
      rw [← h2]
      exact .tup (.inl (.inr ⟨o, h3.1⟩)) (dpAll_of (dp_of m n) h4 h1)

/-! ### the operations' conditions -/
def oAdd : Op := fun x y M Q => match x.nrm, y.nrm with
  | .int i, .int j => Q (.int (i + j)) M
  | .str a, .str b => a.length + b.length ≤ sizeLine ∧ Q (.str (a ++ b)) M
  | .tup a, .tup b => a.length + b.length ≤ sizeLine ∧ Q (.tup (a ++ b)) M
  | .ref a, .ref b => match M a, M b with
    | some (.lst xs), some (.lst ys) => xs.length + ys.length ≤ sizeLine ∧ ∀ p, M p = none → Q (.ref p) (updM M p (.lst (xs ++ ys)))
    | _, _ => False
  | _, _ => False
def oSub : Op := fun x y M Q => match x, y with
  | .int i, .int j => Q (.int (i - j)) M
  | _, _ => False
def oMul : Op := fun x y M Q => match x, y with
  | .int i, .int j => CMulW i j ∧ Q (.int (i * j)) M
  | .ref a, .int k => match M a with
    | some (.lst xs) => (-(2 ^ 63) ≤ k ∧ k < 2 ^ 63) ∧ xs.length * k.toNat ≤ sizeLine ∧ ∀ p, M p = none → Q (.ref p) (updM M p (.lst (List.replicate k.toNat xs).flatten))
    | _ => False
  | _, _ => False
def oFdiv : Op := fun x y M Q => match x, y with
  | .int i, .int j => CDivW i j ∧ Q (.int (i / j)) M
  | _, _ => False
def oMod : Op := fun x y M Q => match x, y with
  | .int i, .int j => 0 < j ∧ Q (.int (i % j)) M
  | _, _ => False
def oPow : Op := fun x y M Q => match x, y with
  | .int i, .int j => CPow i j ∧ Q (.int (i ^ j.toNat)) M
  | _, _ => False
def oCmp (p : Int → Int → Bool) : Op := fun x y M Q => match x, y with
  | .int i, .int j => Q (.bl (p i j)) M
  | _, _ => False
abbrev oLt : Op := oCmp fun i j => decide (i < j)
abbrev oLe : Op := oCmp fun i j => decide (i ≤ j)
abbrev oGt : Op := oCmp fun i j => decide (j < i)
abbrev oGe : Op := oCmp fun i j => decide (j ≤ i)
def pyN : Nat := 12
def oEqN (neg : Bool) : Op := fun x y M Q => match x, y with
  | .str a, .str b => Q (.bl (if neg then !decide (a = b) else decide (a = b))) M
  | x, y => match pyD M pyN x, pyD M pyN y with
    | some a, some b => (SeqAt.shaped a = true ∧ SeqAt.shaped b = true) ∧ Q (.bl (if neg then !PyData.eqv a b else PyData.eqv a b)) M
    | _, _ => False
abbrev oEq : Op := oEqN false
abbrev oNe : Op := oEqN true
def seqO (M : MH) : D → Option (List D)
  | .tup ds => some ds
  | .ptup ds => some ds
  | .fz ds => some ds
  | .ref a => match M a with
    | some (.lst ds) => some ds
    | _ => none
  | _ => none
def dicO (M : MH) : D → Option (List (D × D))
  | .ref a => match M a with
    | some (.dic ks) => some ks
    | some (.dicL ks) => some ks
    | _ => none
  | _ => none
/-- x in y: y a list, a tuple, by what the data are; a text in a text -/
def oInN (neg : Bool) : Op := fun x y M Q => match pyD M pyN x, pyD M pyN y with
  | some a, some (.list b) => (SeqAt.shaped a = true ∧ SeqAt.shaped (.list b) = true) ∧ Q (.bl (if neg then !b.any (fun z => PyData.eqv z a) else b.any fun z => PyData.eqv z a)) M
  | some a, some (.tuple b) => (SeqAt.shaped a = true ∧ SeqAt.shaped (.tuple b) = true) ∧ Q (.bl (if neg then !b.any (fun z => PyData.eqv z a) else b.any fun z => PyData.eqv z a)) M
  | some (.str a), some (.str b) => Q (.bl (if neg then !!(Builtin.Str.occurrences b a 0 b.length 1).isEmpty else !(Builtin.Str.occurrences b a 0 b.length 1).isEmpty)) M
  | _, _ => False

section
variable {X : Cx}
/-- from a rule by values, at data -/
theorem Wn.go {K : KW} {H : Hp} {M : MH} {Qm : Pt} {Q : VK} (k : Wn K H M Qm Q) (m : RelM K H M) {d : D} {v : V} (q : Rp K H d v) (h : Qm d M) : Q v H := k.run v H d M q (Go.refl H M) m h
theorem Wn.newL {K : KW} {H : Hp} {M : MH} {Qm : Pt} {Q : VK} (k : Wn K H M Qm Q) (m : RelM K H M) {ds : List D} {vs : List V} (q : Rps K H ds vs) (h : ∀ p, M p = none → Qm (.ref p) (updM M p (.lst ds))) :
    ∀ p, H p = none → Q (.ref p) (upd H p (.lst vs)) := fun p hp => k.run _ _ (.ref p) _ rfl (Go.newL hp) (m.newL hp q) (h p (m.free hp))
theorem Wn.newT {K : KW} {H : Hp} {M : MH} {Qm : Pt} {Q : VK} (k : Wn K H M Qm Q) (m : RelM K H M) {ds : List D} {vs : List V} (q : Rps K H ds vs) (h : Qm (.tup ds) M) :
    ∀ p, H p = none → Q (.ref p) (upd H p (.tup vs)) := fun p hp => k.run _ _ (.tup ds) M ⟨p, vs, rfl, .inl (.inl upd_same), Rps.stay (Stay.new hp) _ _ q⟩ (Go.newT hp) (m.add hp) h
theorem od_add : OD X (binaryOp .Add) oAdd := by
  intro pins s σ H x y v u Q I rx ry ⟨dx, dy, M, Qm, qx, qy, m, h, k⟩
  unfold oAdd at h
  replace qx := qx.nrm
  replace qy := qy.nrm
  generalize dx.nrm = dx at h qx
  generalize dy.nrm = dy at h qy
  split at h
  · rename_i i j
    obtain rfl : x = .int i := qx
    obtain rfl : y = .int j := qy
    exact op_add pins s σ H _ _ v u Q I rx ry ⟨i, j, rfl, rfl, k.go m (d := .int (i + j)) rfl h⟩
  · rename_i i j
    obtain rfl : x = .str i := qx
    obtain rfl : y = .str j := qy
    exact op_add_str pins s σ H _ _ v u Q I rx ry ⟨i, j, rfl, rfl, h.1, k.go m (d := .str (i ++ j)) rfl h.2⟩
  · rename_i i j
    obtain ⟨a, xs, rfl, hx, rxs⟩ := qx
    obtain ⟨b, ys, rfl, hy, rys⟩ := qy
    refine op_catA pins s σ H _ _ v u Q I rx ry ⟨a, b, xs, ys, rfl, rfl, hx, hy, by rw [rxs.length, rys.length]; exact h.1, fun e => ?_, fun _ e => ?_, fun _ _ => ?_⟩
    · have : i = [] := by have := rxs.length; rw [e] at this; exact List.length_eq_zero_iff.mp this.symm
      subst this
      exact k.go m (d := .tup j) ⟨b, ys, rfl, hy, rys⟩ h.2
    · have : j = [] := by have := rys.length; rw [e] at this; exact List.length_eq_zero_iff.mp this.symm
      subst this
      have h2 := h.2
      rw [List.append_nil] at h2
      exact k.go m (d := .tup i) ⟨a, xs, rfl, hx, rxs⟩ h2
    · exact k.newT m (rxs.append rys) h.2
  · rename_i a b
    split at h
    · rename_i xs ys ha hb
      obtain rfl : x = .ref a := qx
      obtain rfl : y = .ref b := qy
      obtain ⟨vs, h1, h2⟩ := m.list ha
      obtain ⟨us, h3, h4⟩ := m.list hb
      exact op_cat pins s σ H _ _ v u Q I rx ry ⟨a, b, vs, us, rfl, rfl, h1, h3, by rw [h2.length, h4.length]; exact h.1, k.newL m (h2.append h4) h.2⟩
    · exact h.elim
  · exact h.elim
theorem od_sub : OD X (binaryOp .Sub) oSub := by
  intro pins s σ H x y v u Q I rx ry ⟨dx, dy, M, Qm, qx, qy, m, h, k⟩
  unfold oSub at h
  split at h
  · rename_i i j
    obtain rfl : x = .int i := qx
    obtain rfl : y = .int j := qy
    exact op_sub pins s σ H _ _ v u Q I rx ry ⟨i, j, rfl, rfl, k.go m (d := .int (i - j)) rfl h⟩
  · exact h.elim
theorem Rps.rep {K : KW} {H : Hp} {ds : List D} {vs : List V} (r : Rps K H ds vs) : ∀ n : Nat, Rps K H (List.replicate n ds).flatten (List.replicate n vs).flatten
  | 0 => rfl
  | n + 1 => by rw [List.replicate_succ, List.replicate_succ, List.flatten_cons, List.flatten_cons]; exact r.append (Rps.rep r n)
theorem od_mul : OD X (binaryOp .Mult) oMul := by
  intro pins s σ H x y v u Q I rx ry ⟨dx, dy, M, Qm, qx, qy, m, h, k⟩
  unfold oMul at h
  split at h
  · rename_i i j
    obtain rfl : x = .int i := qx
    obtain rfl : y = .int j := qy
    exact op_mulW pins s σ H _ _ v u Q I rx ry ⟨i, j, rfl, rfl, h.1, k.go m (d := .int (i * j)) rfl h.2⟩
  · rename_i a i
    split at h
    · rename_i xs ha
      obtain rfl : x = .ref a := qx
      obtain rfl : y = .int i := qy
      obtain ⟨vs, h1, h2⟩ := m.list ha
      exact op_rep pins s σ H _ _ v u Q I rx ry ⟨a, i, vs, rfl, rfl, h1, h.1.1, h.1.2, by rw [h2.length]; exact h.2.1, k.newL m (h2.rep _) h.2.2⟩
    · exact h.elim
  · exact h.elim
theorem od_fdiv : OD X (binaryOp .FloorDiv) oFdiv := by
  intro pins s σ H x y v u Q I rx ry ⟨dx, dy, M, Qm, qx, qy, m, h, k⟩
  unfold oFdiv at h
  split at h
  · rename_i i j
    obtain rfl : x = .int i := qx
    obtain rfl : y = .int j := qy
    exact op_fdivW pins s σ H _ _ v u Q I rx ry ⟨i, j, rfl, rfl, h.1, k.go m (d := .int (i / j)) rfl h.2⟩
  · exact h.elim
theorem od_mod : OD X (binaryOp .Mod) oMod := by
  intro pins s σ H x y v u Q I rx ry ⟨dx, dy, M, Qm, qx, qy, m, h, k⟩
  unfold oMod at h
  split at h
  · rename_i i j
    obtain rfl : x = .int i := qx
    obtain rfl : y = .int j := qy
    exact op_mod pins s σ H _ _ v u Q I rx ry ⟨i, j, rfl, rfl, h.1, k.go m (d := .int (i % j)) rfl h.2⟩
  · exact h.elim
theorem od_pow : OD X (binaryOp .Pow) oPow := by
  intro pins s σ H x y v u Q I rx ry ⟨dx, dy, M, Qm, qx, qy, m, h, k⟩
  unfold oPow at h
  split at h
  · rename_i i j
    obtain rfl : x = .int i := qx
    obtain rfl : y = .int j := qy
    exact op_pow pins s σ H _ _ v u Q I rx ry ⟨i, j, rfl, rfl, h.1, k.go m (d := .int (i ^ j.toNat)) rfl h.2⟩
  · exact h.elim
theorem od_cmp {op : CmpOp} {p : Int → Int → Bool} (ho : OpR X (compareOp op) (rI0 fun i j => .bl (p i j))) : OD X (compareOp op) (oCmp p) := by
  intro pins s σ H x y v u Q I rx ry ⟨dx, dy, M, Qm, qx, qy, m, h, k⟩
  unfold oCmp at h
  split at h
  · rename_i i j
    obtain rfl : x = .int i := qx
    obtain rfl : y = .int j := qy
    exact ho pins s σ H _ _ v u Q I rx ry ⟨i, j, rfl, rfl, k.go m (d := .bl (p i j)) rfl h⟩
  · exact h.elim
theorem od_lt : OD X (compareOp .Lt) oLt := od_cmp op_lt
theorem od_le : OD X (compareOp .LtE) oLe := od_cmp op_le
theorem od_gt : OD X (compareOp .Gt) oGt := od_cmp op_gt
theorem od_ge : OD X (compareOp .GtE) oGe := od_cmp op_ge
theorem od_eq (hu : X.A.units + 64 < cLine) : OD X (compareOp .Eq) oEq := by
  intro pins s σ H x y v u Q I rx ry ⟨dx, dy, M, Qm, qx, qy, m, h, k⟩
  unfold oEq oEqN at h
  split at h
  · rename_i a b
    obtain rfl : x = .str a := qx
    obtain rfl : y = .str b := qy
    refine op_eq  pins s σ H _ _ v u Q I rx ry ⟨rfl, ?_⟩
    have e : decide (V.str a = V.str b) = decide (a = b) := decide_eq_decide.mpr ⟨fun z => V.str.inj z, fun z => by rw [z]⟩
    rw [e]
    exact k.go m (d := .bl (decide (a = b))) rfl h
  split at h
  · rename_i a b ha hb
    exact op_eqD hu pins s σ H _ _ v u Q I rx ry ⟨a, b, dp_of m _ _ _ _ qx ha, dp_of m _ _ _ _ qy hb, h.1.1, h.1.2, k.go m (d := .bl (PyData.eqv a b)) rfl h.2⟩
  · exact h.elim
theorem od_ne (hu : X.A.units + 64 < cLine) : OD X (compareOp .NotEq) oNe := by
  intro pins s σ H x y v u Q I rx ry ⟨dx, dy, M, Qm, qx, qy, m, h, k⟩
  unfold oNe oEqN at h
  split at h
  · rename_i a b
    obtain rfl : x = .str a := qx
    obtain rfl : y = .str b := qy
    refine op_ne  pins s σ H _ _ v u Q I rx ry ⟨rfl, ?_⟩
    have e : decide (V.str a = V.str b) = decide (a = b) := decide_eq_decide.mpr ⟨fun z => V.str.inj z, fun z => by rw [z]⟩
    rw [e]
    exact k.go m (d := .bl (!decide (a = b))) rfl h
  split at h
  · rename_i a b ha hb
    exact op_neD hu pins s σ H _ _ v u Q I rx ry ⟨a, b, dp_of m _ _ _ _ qx ha, dp_of m _ _ _ _ qy hb, h.1.1, h.1.2, k.go m (d := .bl (!PyData.eqv a b)) rfl h.2⟩
  · exact h.elim
theorem op_inTD (hu : X.A.units + 65 < cLine) : OpR X (compareOp .In) (fun x y H Q => ∃ d ds, Dp X.K H x d ∧ Dp X.K H y (.tuple ds) ∧ SeqAt.shaped d = true ∧ SeqAt.shaped (.tuple ds) = true ∧ Q (.bl (ds.any fun z => PyData.eqv z d)) H) := by
  intro pins s σ H x y v u Q I rx ry ⟨d, ds, hd, he, sd, se, q⟩
  obtain ⟨as, r1⟩ := Dp.reads I d x v hd rx
  obtain ⟨bs, r2⟩ := Dp.reads I (.tuple ds) y u he ry
  exact SeqAt.in_tuple_reads r2 r1 (SeqAt.canLay_of_shaped se) (SeqAt.canLay_of_shaped sd) (room_in_shaped sd hu) ⟨.bl _, H, I, rfl, q⟩
theorem op_ninTD (hu : X.A.units + 65 < cLine) : OpR X (compareOp .NotIn) (fun x y H Q => ∃ d ds, Dp X.K H x d ∧ Dp X.K H y (.tuple ds) ∧ SeqAt.shaped d = true ∧ SeqAt.shaped (.tuple ds) = true ∧ Q (.bl (!ds.any fun z => PyData.eqv z d)) H) := by
  intro pins s σ H x y v u Q I rx ry ⟨d, ds, hd, he, sd, se, q⟩
  obtain ⟨as, r1⟩ := Dp.reads I d x v hd rx
  obtain ⟨bs, r2⟩ := Dp.reads I (.tuple ds) y u he ry
  exact SeqAt.notIn_tuple_reads r2 r1 (SeqAt.canLay_of_shaped se) (SeqAt.canLay_of_shaped sd) (room_in_shaped sd hu) ⟨.bl _, H, I, rfl, q⟩
theorem Dp.str_of {K : KW} {H : Hp} {v : V} {x : Str} (h : Dp K.K H v (.str x)) : v = .str x := by cases h; rfl
theorem od_in (hu : X.A.units + 65 < cLine) : OD X (compareOp .In) (oInN false) := by
  intro pins s σ H x y v u Q I rx ry ⟨dx, dy, M, Qm, qx, qy, m, h, k⟩
  unfold oInN at h
  split at h
  · rename_i a b ha hb
    exact op_inD hu pins s σ H _ _ v u Q I rx ry ⟨a, b, dp_of m _ _ _ _ qx ha, dp_of m _ _ _ _ qy hb, h.1.1, h.1.2, k.go m (d := .bl _) rfl h.2⟩
  · rename_i a b ha hb
    exact op_inTD hu pins s σ H _ _ v u Q I rx ry ⟨a, b, dp_of m _ _ _ _ qx ha, dp_of m _ _ _ _ qy hb, h.1.1, h.1.2, k.go m (d := .bl _) rfl h.2⟩
  · rename_i a b ha hb
    have ex := Dp.str_of (dp_of m _ _ _ _ qx ha)
    have ey := Dp.str_of (dp_of m _ _ _ _ qy hb)
    subst ex; subst ey
    exact op_in_str pins s σ H _ _ v u Q I rx ry ⟨a, b, rfl, rfl, k.go m (d := .bl _) rfl h⟩
  · exact h.elim
theorem od_nin (hu : X.A.units + 65 < cLine) : OD X (compareOp .NotIn) (oInN true) := by
  intro pins s σ H x y v u Q I rx ry ⟨dx, dy, M, Qm, qx, qy, m, h, k⟩
  unfold oInN at h
  split at h
  · rename_i a b ha hb
    exact op_notInD hu pins s σ H _ _ v u Q I rx ry ⟨a, b, dp_of m _ _ _ _ qx ha, dp_of m _ _ _ _ qy hb, h.1.1, h.1.2, k.go m (d := .bl _) rfl h.2⟩
  · rename_i a b ha hb
    exact op_ninTD hu pins s σ H _ _ v u Q I rx ry ⟨a, b, dp_of m _ _ _ _ qx ha, dp_of m _ _ _ _ qy hb, h.1.1, h.1.2, k.go m (d := .bl _) rfl h.2⟩
  · rename_i a b ha hb
    have ex := Dp.str_of (dp_of m _ _ _ _ qx ha)
    have ey := Dp.str_of (dp_of m _ _ _ _ qy hb)
    subst ex; subst ey
    exact op_notIn_str pins s σ H _ _ v u Q I rx ry ⟨a, b, rfl, rfl, k.go m (d := .bl _) rfl h⟩
  · exact h.elim

/-! ### unary -/
def uNeg (x : D) (M : MH) (Q : Pt) : Prop := match x with | .int i => Q (.int (-i)) M | _ => False
theorem ud_neg : UD X (unaryOp .USub) uNeg := by
  intro pins s σ H x v Q I rx ⟨dx, M, Qm, qx, m, h, k⟩
  unfold uNeg at h
  split at h
  · rename_i i
    obtain rfl : x = .int i := qx
    exact un_neg pins s σ H _ v Q I rx ⟨i, rfl, k.go m (d := .int (-i)) rfl h⟩
  · exact h.elim

/-! ### is None, is True -/
def D.isNon : D → Bool
  | .non => true
  | _ => false
theorem Rp.non {K : KW} {H : Hp} {d : D} {v : V} (r : Rp K H d v) : decide (v = .non) = d.isNon := by
  cases d with
  | non => rw [show v = .non from r]; rfl
  | bl b => rw [show v = .bl b from r]; rfl
  | int b => rw [show v = .int b from r]; rfl
  | str b => rw [show v = .str b from r]; rfl
  | ref b => rw [show v = .ref b from r]; rfl
  | ty b => rw [show v = .ty b from r]; rfl
  | tup ds => obtain ⟨a, vs, rfl, _⟩ := r; rfl
  | fz ds => obtain ⟨a, vs, rfl, _⟩ := r; rfl
  | ptup ds => obtain ⟨a, vs, o, rfl, _⟩ := r; rfl
def wIsN (neg : Bool) (a : Wp) : Wp := fun ρ M Q => a ρ M fun x M1 => Q (.bl (if neg then !x.isNon else x.isNon)) M1
variable {S : Cl} {a b : Expr} {wa wb : Wp} {pos : Pos}
theorem pc_isNon {j : Nat} {pos' : Pos} (ha : SE X S a wa) : PC X .Is a (.Constant .none j pos') (lt (kw X) S (wIsN false wa)) := by
  refine ⟨fun pins s σ H Q I ⟨ρ, M, Qm, r, h, k⟩ => (pc_isN ha).run pins s σ H Q I ⟨ρ, M, _, r, h, ⟨fun v H1 d M1 q st m h1 => ?_⟩⟩⟩
  show Q (V.bl (decide (v = V.non))) H1
  rw [Rp.non q]
  exact (k.of st).go m (d := .bl d.isNon) rfl h1
theorem pc_notNon {j : Nat} {pos' : Pos} (ha : SE X S a wa) : PC X .IsNot a (.Constant .none j pos') (lt (kw X) S (wIsN true wa)) := by
  refine ⟨fun pins s σ H Q I ⟨ρ, M, Qm, r, h, k⟩ => (pc_notN ha).run pins s σ H Q I ⟨ρ, M, _, r, h, ⟨fun v H1 d M1 q st m h1 => ?_⟩⟩⟩
  show Q (V.bl (!decide (v = V.non))) H1
  rw [Rp.non q]
  exact (k.of st).go m (d := .bl (!d.isNon)) rfl h1
theorem se_isN {j : Nat} {pos' : Pos} (ha : SE X S a wa) : SE X S (.Compare a [.Is] [.Constant .none j pos'] pos) (wIsN false wa) := pe_cmp (pc_isNon ha)
theorem se_notN {j : Nat} {pos' : Pos} (ha : SE X S a wa) : SE X S (.Compare a [.IsNot] [.Constant .none j pos'] pos) (wIsN true wa) := pe_cmp (pc_notNon ha)
theorem st_isN {j : Nat} {pos' : Pos} (ha : SE X S a wa) : ST X S (.Compare a [.Is] [.Constant .none j pos'] pos) (wIsN false wa) := PT.imp' (pt_cmp (pc_isNon ha)) fun σ H Q h => tt_of h
theorem st_notN {j : Nat} {pos' : Pos} (ha : SE X S a wa) : ST X S (.Compare a [.IsNot] [.Constant .none j pos'] pos) (wIsN true wa) := PT.imp' (pt_cmp (pc_notNon ha)) fun σ H Q h => tt_of h
def oIsB (neg : Bool) : Op := fun x y M Q => match x, y with
  | .bl a, .bl b => Q (.bl (if neg then !decide (a = b) else decide (a = b))) M
  | _, _ => False
theorem od_isB : OD X (compareOp .Is) (oIsB false) := by
  intro pins s σ H x y v u Q I rx ry ⟨dx, dy, M, Qm, qx, qy, m, h, k⟩
  unfold oIsB at h
  split at h
  · rename_i i j
    obtain rfl : x = .bl i := qx
    obtain rfl : y = .bl j := qy
    exact op_isBl pins s σ H _ _ v u Q I rx ry ⟨i, j, rfl, rfl, k.go m (d := .bl _) rfl h⟩
  · exact h.elim
theorem od_isNB : OD X (compareOp .IsNot) (oIsB true) := by
  intro pins s σ H x y v u Q I rx ry ⟨dx, dy, M, Qm, qx, qy, m, h, k⟩
  unfold oIsB at h
  split at h
  · rename_i i j
    obtain rfl : x = .bl i := qx
    obtain rfl : y = .bl j := qy
    exact op_notBl pins s σ H _ _ v u Q I rx ry ⟨i, j, rfl, rfl, k.go m (d := .bl _) rfl h⟩
  · exact h.elim
/-! ### chains -/
def wCh2 (o o' : Op) (a b c : Wp) : Wp := fun ρ M Q => a ρ M fun x M1 => b ρ M1 fun y M2 => o x y M2 fun z M3 => isB z fun k => if k = true then c ρ M3 fun w M4 => o' y w M4 Q else Q (.bl false) M3
theorem se_ch2 {c : Expr} {wc : Wp} {op op' : CmpOp} {o o' : Op} (ho : OD X (compareOp op) o) (ho' : OD X (compareOp op') o') (ha : SE X S a wa) (hb : SE X S b wb) (hc : SE X S c wc) (hm : lastMarks [op, op'] [b, c] = false) :
    SE X S (.Compare a [op, op'] [b, c] pos) (wCh2 o o' wa wb wc) :=
  PE.imp' (pe_chain ho ho' ha hb hc (hm := hm)) fun σ H Q ⟨ρ, M, Qm, r, h, k⟩ => by
    refine ⟨ρ, M, _, r, h, ⟨fun v1 H1 d1 M1 q1 s1 m1 h1 => ?_⟩⟩
    refine ⟨ρ, M1, _, r.go s1 m1, h1, ⟨fun v2 H2 d2 M2 q2 s2 m2 h2 => ?_⟩⟩
    refine ⟨d1, d2, M2, _, Rp.stay (s2.stay m1) _ _ q1, q2, m2, h2, ⟨fun v3 H3 d3 M3 q3 s3 m3 h3 => ?_⟩⟩
    obtain ⟨b, rfl, h5⟩ := isB.of h3
    refine ⟨b, q3, ?_⟩
    cases b with
    | true =>
      rw [if_pos rfl] at h5 ⊢
      refine ⟨ρ, M3, _, ((r.go s1 m1).go s2 m2).go s3 m3, h5, ⟨fun v4 H4 d4 M4 q4 s4 m4 h4 => ?_⟩⟩
      exact ⟨d2, d4, M4, Qm, Rp.stay ((s3.trans s4).stay m2) _ _ q2, q4, m4, h4, k.of (((s1.trans s2).trans s3).trans s4)⟩
    | false =>
      rw [if_neg Bool.false_ne_true] at h5 ⊢
      exact (k.of ((s1.trans s2).trans s3)).go m3 (d := .bl false) rfl h5
end
end Pz


set_option Elab.async false
set_option linter.all false
set_option autoImplicit false
set_option maxRecDepth 100000
set_option maxHeartbeats 1000000
/-! Subscripts, built-in functions and methods by data. -/
namespace Pz
open PySem PySem.Spec L2
open PyProof.Rows hiding St

theorem atI_rps {K : KW} {H : Hp} {ds : List D} {vs : List V} {i : Int} {d : D} (r : Rps K H ds vs) (h : atI ds i = some d) : ∃ v, atI vs i = some v ∧ Rp K H d v := by
  unfold atI at h ⊢
  rw [r.length]
  obtain ⟨j, h1, h2⟩ := Option.bind_eq_some_iff.mp h
  obtain ⟨v, h3, h4⟩ := r.get h2
  exact ⟨v, Option.bind_eq_some_iff.mpr ⟨j, h1, h3⟩, h4⟩
def cutD (xs : List D) (lo hi : Option Int) : List D := (xs.drop (HT.sIx xs.length 0 lo)).take (HT.sIx xs.length xs.length hi - HT.sIx xs.length 0 lo)
theorem Rps.cut {K : KW} {H : Hp} {ds : List D} {vs : List V} (r : Rps K H ds vs) (lo hi : Option Int) : Rps K H (cutD ds lo hi) (cutV vs lo hi) := by
  unfold cutD cutV
  rw [r.length]
  exact (r.drop _).take _

/-! ### o[i] -/
def oIx : Op := fun x y M Q => match x.nrm, y with
  | .tup ds, .int i => match atI ds i with | some d => Q d M | _ => False
  | .fz ds, .int i => match atI ds i with | some d => Q d M | _ => False
  | .ref a, .int i => match M a with
    | some (.lst ds) => match atI ds i with | some d => Q d M | _ => False
    | _ => False
  | .str z, .int i => z.length ≤ sizeLine ∧ match atI z.cps.toList i with | some c => Q (.str ⟨#[c]⟩) M | _ => False
  | _, _ => False
section
variable {X : Cx} {S : Cl} {a b c : Expr} {wa wb wc : Wp} {pos : Pos}
theorem ix_data : IxR X (fun x y H Q => ∃ dx dy M Qm, Rp (kw X) H dx x ∧ Rp (kw X) H dy y ∧ RelM (kw X) H M ∧ oIx dx dy M Qm ∧ Wn (kw X) H M Qm Q) := by
  intro value slice pins s σ H x y v u Q I rx ry ⟨dx, dy, M, Qm, qx, qy, m, h, k⟩ hs
  unfold oIx at h
  replace qx := qx.nrm
  generalize dx.nrm = dx at h qx
  split at h
  · rename_i ds i
    split at h
    · rename_i d hd
      obtain ⟨p, vs, rfl, hp, rv⟩ := qx
      obtain rfl : y = .int i := qy
      obtain ⟨w, h1, h2⟩ := atI_rps rv hd
      exact ix_tup value slice pins s σ H _ _ v u Q I rx ry ⟨p, vs, i, w, rfl, rfl, hp, h1, k.go m h2 h⟩ hs
    · exact h.elim
  · rename_i ds i
    split at h
    · rename_i d hd
      obtain ⟨p, vs, rfl, hp, rv⟩ := qx
      obtain rfl : y = .int i := qy
      obtain ⟨w, h1, h2⟩ := atI_rps rv hd
      exact ix_list value slice pins s σ H _ _ v u Q I rx ry ⟨p, vs, i, w, rfl, rfl, hp.sqL, h1, k.go m h2 h⟩ hs
    · exact h.elim
  · rename_i p i
    split at h
    · rename_i ds hp
      split at h
      · rename_i d hd
        obtain rfl : x = .ref p := qx
        obtain rfl : y = .int i := qy
        obtain ⟨vs, h1, rv⟩ := m.list hp
        obtain ⟨w, h3, h4⟩ := atI_rps rv hd
        exact ix_list value slice pins s σ H _ _ v u Q I rx ry ⟨p, vs, i, w, rfl, rfl, SqL.of h1, h3, k.go m h4 h⟩ hs
      · exact h.elim
    · exact h.elim
  · rename_i z i
    obtain ⟨hz, h⟩ := h
    split at h
    · rename_i c hc
      obtain rfl : x = .str z := qx
      obtain rfl : y = .int i := qy
      exact ix_str value slice pins s σ H _ _ v u Q I rx ry ⟨z, i, c, rfl, rfl, hz, hc, k.go m (d := .str ⟨#[c]⟩) rfl h⟩ hs
    · exact h.elim
  · exact h.elim
theorem se_ix (ha : SE X S a wa) (hb : SE X S b wb) (hs : PlainIx b) : SE X S (.Subscript a b pos) (wBin oIx wa wb) := PE.imp' (pe_ix ix_data ha hb hs) fun _ _ _ h => two h

/-! ### o[lo:hi] -/
def oSl (x : D) (lo hi : Option Int) (M : MH) (Q : Pt) : Prop := match x.nrm with
  | .tup ds => Q (.tup (cutD ds lo hi)) M
  | .fz ds => ∀ p, M p = none → Q (.ref p) (updM M p (.lst (cutD ds lo hi)))
  | .ref a => match M a with
    | some (.lst ds) => ∀ p, M p = none → Q (.ref p) (updM M p (.lst (cutD ds lo hi)))
    | _ => False
  | .str z => z.length ≤ sizeLine ∧ Q (.str (Txt.slice z lo hi)) M
  | _ => False
theorem cutD_whole {ds : List D} {lo hi : Option Int} (h : HT.sIx ds.length 0 lo = 0 ∧ HT.sIx ds.length ds.length hi = ds.length) : cutD ds lo hi = ds := by
  unfold cutD
  rw [h.1, h.2, List.drop_zero, Nat.sub_zero, List.take_length]
theorem sl_data : SlR X (fun x lo hi H Q => ∃ dx M Qm, Rp (kw X) H dx x ∧ RelM (kw X) H M ∧ oSl dx lo hi M Qm ∧ Wn (kw X) H M Qm Q) := by
  intro pins s σ H x v vl vu lo hi sl Q I rx hs pl pu ⟨dx, M, Qm, qx, m, h, k⟩
  unfold oSl at h
  replace qx := qx.nrm
  generalize dx.nrm = dx at h qx
  split at h
  · rename_i ds
    obtain ⟨p, vs, rfl, hp, rv⟩ := qx
    refine sl_tupA pins s σ H _ v vl vu lo hi sl Q I rx hs pl pu ⟨p, vs, rfl, hp, fun e => ?_, fun _ => k.newT m (rv.cut lo hi) h⟩
    rw [rv.length] at e
    rw [cutD_whole e] at h
    exact k.go m (d := .tup ds) ⟨p, vs, rfl, hp, rv⟩ h
  · rename_i ds
    obtain ⟨p, vs, rfl, hp, rv⟩ := qx
    exact sl_list pins s σ H _ v vl vu lo hi sl Q I rx hs pl pu ⟨p, vs, rfl, hp.sqL, k.newL m (rv.cut lo hi) h⟩
  · rename_i p
    split at h
    · rename_i ds hp
      obtain rfl : x = .ref p := qx
      obtain ⟨vs, h1, rv⟩ := m.list hp
      exact sl_list pins s σ H _ v vl vu lo hi sl Q I rx hs pl pu ⟨p, vs, rfl, SqL.of h1, k.newL m (rv.cut lo hi) h⟩
    · exact h.elim
  · rename_i z
    obtain rfl : x = .str z := qx
    exact C8.sl_txt pins s σ H _ v vl vu lo hi sl Q I rx hs pl pu ⟨z, rfl, h.1, k.go m (d := .str _) rfl h.2⟩
  · exact h.elim
/-- a part of a slice -/
abbrev Wpo := Ev → MH → (Option Int → MH → Prop) → Prop
def lto (K : KW) (S : Cl) (w : Wpo) : St → Hp → (Option Int → Hp → Prop) → Prop := fun σ H Q => ∃ (ρ : Ev) (M : MH) (Qm : Option Int → MH → Prop), Rl K S σ H ρ M ∧ w ρ M Qm ∧ ∀ o H' M', Go H M H' M' → RelM K H' M' → Qm o M' → Q o H'
abbrev SO (X : Cx) (S : Cl) (e : Option Expr) (w : Wpo) : Prop := PO X e (lto (kw X) S w)
def isI (d : D) (k : Int → Prop) : Prop := match d with | .int i => k i | _ => False
theorem isI.of {d : D} {k : Int → Prop} (h : isI d k) : ∃ i, d = .int i ∧ k i := by cases d <;> first | exact h.elim | exact ⟨_, rfl, h⟩
def wpoN : Wpo := fun _ M Q => Q none M
def wpoS (a : Wp) : Wpo := fun ρ M Q => a ρ M fun x M1 => isI x fun i => Q (some i) M1
theorem PO.imp' {e : Option Expr} {t t' : TO} (h : PO X e t) (k : ∀ σ H Q, t' σ H Q → t σ H Q) : PO X e t' := ⟨fun pins s σ H Q I q => h.run pins s σ H Q I (k σ H Q q)⟩
theorem so_none : SO X S none wpoN := PO.imp' po_none fun σ H Q ⟨ρ, M, Qm, r, h, k⟩ => k none H M (Go.refl H M) r.m h
theorem so_some (ha : SE X S a wa) : SO X S (some a) (wpoS wa) := PO.imp' (po_some ha) fun σ H Q ⟨ρ, M, Qm, r, h, k⟩ => ⟨ρ, M, _, r, h, ⟨fun v H1 d M1 q s m h1 => by
  obtain ⟨i, rfl, h1⟩ := isI.of h1
  exact ⟨i, q, k _ _ _ s m h1⟩⟩⟩
def wSl (a : Wp) (lo hi : Wpo) : Wp := fun ρ M Q => a ρ M fun x M1 => lo ρ M1 fun l M2 => hi ρ M2 fun h M3 => oSl x l h M3 Q
theorem se_sl {lo hi : Option Expr} {wl wh : Wpo} {p2 : Pos} (ha : SE X S a wa) (hl : SO X S lo wl) (hh : SO X S hi wh) : SE X S (.Subscript a (.Slice lo hi none p2) pos) (wSl wa wl wh) :=
  PE.imp' (pe_slice sl_data ha hl hh) fun σ H Q ⟨ρ, M, Qm, r, h, k⟩ => by
    refine ⟨ρ, M, _, r, h, ⟨fun v1 H1 d1 M1 q1 s1 m1 h1 => ?_⟩⟩
    refine ⟨ρ, M1, _, r.go s1 m1, h1, fun o1 H2 M2 s2 m2 h2 => ?_⟩
    refine ⟨ρ, M2, _, (r.go s1 m1).go s2 m2, h2, fun o2 H3 M3 s3 m3 h3 => ?_⟩
    exact ⟨d1, M3, Qm, Rp.stay ((s2.trans s3).stay m1) _ _ q1, m3, h3, k.of ((s1.trans s2).trans s3)⟩

/-! ### built-in functions -/
def lenO (M : MH) : D → Option Nat
  | .str z => if z.length ≤ sizeLine then some z.length else none
  | d => match seqO M d with
    | some ds => some ds.length
    | none => (dicO M d).map (·.length)
def bLen (ds : List D) (M : MH) (Q : Pt) : Prop := match ds with
  | [.str z] => z.length ≤ sizeLine ∧ Q (.int z.length) M
  | [d] => match seqO M d with
    | some ds => Q (.int ds.length) M
    | none => False
  | _ => False
theorem seq_of {K : KW} {H : Hp} {M : MH} (m : RelM K H M) {d : D} {v : V} (q : Rp K H d v) {ds : List D} (h : seqO M d = some ds) : ∃ p vs, v = .ref p ∧ (SqL K.K H p vs ∨ SqT K.K H p vs) ∧ Rps K H ds vs := by
  unfold seqO at h
  split at h
  · cases h
    obtain ⟨p, vs, e, hp, r⟩ := q
    exact ⟨p, vs, e, .inr hp, r⟩
  · cases h
    obtain ⟨p, vs, o, e, hp, r⟩ := q
    exact ⟨p, vs, e, .inr (.inl (.inr ⟨o, hp.1⟩)), r⟩
  · cases h
    obtain ⟨p, vs, e, hp, r⟩ := q
    exact ⟨p, vs, e, .inl hp.sqL, r⟩
  · rename_i a
    split at h
    · rename_i es ha
      cases h
      obtain ⟨vs, h1, r⟩ := m.list ha
      exact ⟨a, vs, q, .inl (SqL.of h1), r⟩
    · cases h
  · cases h
theorem Rps.one {K : KW} {H : Hp} {d : D} {v : V} (q : Rp K H d v) : Rps K H [d] [v] := by
  unfold Rps
  exact ⟨v, [], rfl, q, by unfold Rps; rfl⟩
theorem one_arg {K : KW} {H : Hp} {d : D} {vs : List V} (r : Rps K H [d] vs) : ∃ v, vs = [v] ∧ Rp K H d v := by
  obtain ⟨v, s, e, q, qs⟩ := r
  exact ⟨v, by rw [e, show s = [] from qs], q⟩
theorem two_args {K : KW} {H : Hp} {d e : D} {vs : List V} (r : Rps K H [d, e] vs) : ∃ v u, vs = [v, u] ∧ Rp K H d v ∧ Rp K H e u := by
  obtain ⟨v, s, e, q, qs⟩ := r
  obtain ⟨u, rfl, q2⟩ := one_arg qs
  exact ⟨v, u, e, q, q2⟩
theorem no_args {K : KW} {H : Hp} {vs : List V} (r : Rps K H [] vs) : vs = [] := r
theorem cd_len : CD X (.builtin "len") bLen := by
  intro pins s σ H xs us Q I rv ⟨ds, M, Qm, r, m, h, k⟩
  unfold bLen at h
  split at h
  · rename_i z
    obtain ⟨v, rfl, q⟩ := one_arg r
    obtain rfl : v = .str z := q
    exact call_len_str pins s σ H _ us Q I rv ⟨z, rfl, h.1, k.go m (d := .int _) rfl h.2⟩
  · rename_i d _
    split at h
    · rename_i ds hd
      obtain ⟨v, rfl, q⟩ := one_arg r
      obtain ⟨p, vs, rfl, hp, rr⟩ := seq_of m q hd
      exact call_len_seq pins s σ H _ us Q I rv ⟨p, vs, rfl, hp, by rw [rr.length]; exact k.go m (d := .int _) rfl h⟩
    · exact h.elim
  · exact h.elim
def bAbs (ds : List D) (M : MH) (Q : Pt) : Prop := match ds with
  | [.int i] => Q (.int (if i < 0 then -i else i)) M
  | _ => False
theorem cd_abs : CD X (.builtin "abs") bAbs := by
  intro pins s σ H xs us Q I rv ⟨ds, M, Qm, r, m, h, k⟩
  unfold bAbs at h
  split at h
  · rename_i i
    obtain ⟨v, rfl, q⟩ := one_arg r
    obtain rfl : v = .int i := q
    exact call_abs pins s σ H _ us Q I rv ⟨i, rfl, k.go m (d := .int _) rfl h⟩
  · exact h.elim
/-- all ints -/
def intsO : List D → Option (List Int) := mapO fun d => match d with | .int i => some i | _ => none
theorem intsO_map : ∀ {ds : List D} {ns : List Int}, intsO ds = some ns → ds = ns.map D.int
  | [], _, h => by cases h; rfl
  | d :: ds, ns, h => by
    unfold intsO mapO at h
    split at h
    · rename_i y s h1 h2
      cases h
      cases d <;> first | (simp at h1; done) | (cases h1; rw [List.map_cons, ← intsO_map (ds := ds) (ns := s) h2])
    · cases h
theorem intsO_ints : ∀ ns : List Int, intsO (ns.map D.int) = some ns
  | [] => rfl
  | n :: ns => by
    have ih := intsO_ints ns
    unfold intsO at ih ⊢
    simp only [List.map_cons, mapO, ih]
def blsO : List D → Option (List Bool) := mapO fun d => match d with | .bl i => some i | _ => none
theorem blsO_map : ∀ {ds : List D} {ns : List Bool}, blsO ds = some ns → ds = ns.map D.bl
  | [], _, h => by cases h; rfl
  | d :: ds, ns, h => by
    unfold blsO mapO at h
    split at h
    · rename_i y s h1 h2
      cases h
      cases d <;> first | (simp at h1; done) | (cases h1; rw [List.map_cons, ← blsO_map (ds := ds) (ns := s) h2])
    · cases h
theorem blsO_bls : ∀ ns : List Bool, blsO (ns.map D.bl) = some ns
  | [] => rfl
  | n :: ns => by
    have ih := blsO_bls ns
    unfold blsO at ih ⊢
    simp only [List.map_cons, mapO, ih]
/-- a list (no tuple) that is read -/
def lisO (M : MH) : D → Option (List D)
  | .fz ds => some ds
  | .ref a => match M a with
    | some (.lst ds) => some ds
    | _ => none
  | _ => none
theorem lis_of {K : KW} {H : Hp} {M : MH} (m : RelM K H M) {d : D} {v : V} (q : Rp K H d v) {ds : List D} (h : lisO M d = some ds) : ∃ p vs, v = .ref p ∧ SqL K.K H p vs ∧ Rps K H ds vs := by
  unfold lisO at h
  split at h
  · cases h
    obtain ⟨p, vs, e, hp, r⟩ := q
    exact ⟨p, vs, e, hp.sqL, r⟩
  · rename_i a
    split at h
    · rename_i es ha
      cases h
      obtain ⟨vs, h1, r⟩ := m.list ha
      exact ⟨a, vs, q, SqL.of h1, r⟩
    · cases h
  · cases h
def maxL : List Int → Int
  | [] => 0
  | [x] => x
  | x :: r => if maxL r < x then x else maxL r
def minL : List Int → Int
  | [] => 0
  | [x] => x
  | x :: r => if x < minL r then x else minL r
theorem maxL_spec : ∀ {ns : List Int}, ns ≠ [] → maxL ns ∈ ns ∧ ∀ y ∈ ns, y ≤ maxL ns
  | [], h => absurd rfl h
  | [x], _ => ⟨List.mem_singleton.mpr rfl, fun y hy => by rw [List.mem_singleton.mp hy]; exact Int.le_refl _⟩
  | x :: y :: r, _ => by
    obtain ⟨h1, h2⟩ := maxL_spec (ns := y :: r) (by simp)
    show (if maxL (y :: r) < x then x else maxL (y :: r)) ∈ _ ∧ ∀ z ∈ _, z ≤ (if maxL (y :: r) < x then x else maxL (y :: r))
    by_cases h : maxL (y :: r) < x
    · rw [if_pos h]
      refine ⟨List.mem_cons_self, fun z hz => ?_⟩
      rcases List.mem_cons.mp hz with rfl | hz
      · exact Int.le_refl _
      · have := h2 z hz; omega
    · rw [if_neg h]
      refine ⟨List.mem_cons_of_mem _ h1, fun z hz => ?_⟩
      rcases List.mem_cons.mp hz with rfl | hz
      · omega
      · exact h2 z hz
theorem minL_spec : ∀ {ns : List Int}, ns ≠ [] → minL ns ∈ ns ∧ ∀ y ∈ ns, minL ns ≤ y
  | [], h => absurd rfl h
  | [x], _ => ⟨List.mem_singleton.mpr rfl, fun y hy => by rw [List.mem_singleton.mp hy]; exact Int.le_refl _⟩
  | x :: y :: r, _ => by
    obtain ⟨h1, h2⟩ := minL_spec (ns := y :: r) (by simp)
    show (if x < minL (y :: r) then x else minL (y :: r)) ∈ _ ∧ ∀ z ∈ _, (if x < minL (y :: r) then x else minL (y :: r)) ≤ z
    by_cases h : x < minL (y :: r)
    · rw [if_pos h]
      refine ⟨List.mem_cons_self, fun z hz => ?_⟩
      rcases List.mem_cons.mp hz with rfl | hz
      · exact Int.le_refl _
      · have := h2 z hz; omega
    · rw [if_neg h]
      refine ⟨List.mem_cons_of_mem _ h1, fun z hz => ?_⟩
      rcases List.mem_cons.mp hz with rfl | hz
      · omega
      · exact h2 z hz
theorem max_uniq {ns : List Int} {m : Int} (h : m ∈ ns) (h2 : ∀ y ∈ ns, y ≤ m) : m = maxL ns := by
  obtain ⟨h3, h4⟩ := maxL_spec (ns := ns) (by rintro rfl; cases h)
  have := h2 _ h3
  have := h4 _ h
  omega
theorem min_uniq {ns : List Int} {m : Int} (h : m ∈ ns) (h2 : ∀ y ∈ ns, m ≤ y) : m = minL ns := by
  obtain ⟨h3, h4⟩ := minL_spec (ns := ns) (by rintro rfl; cases h)
  have := h2 _ h3
  have := h4 _ h
  omega
def bMax (ds : List D) (M : MH) (Q : Pt) : Prop := match ds with
  | [.int i, .int j] => Q (.int (if j > i then j else i)) M
  | [d] => match lisO M d with
    | some es => match intsO es with
      | some ns => ns ≠ [] ∧ Q (.int (maxL ns)) M
      | none => False
    | none => False
  | _ => False
def bMin (ds : List D) (M : MH) (Q : Pt) : Prop := match ds with
  | [.int i, .int j] => Q (.int (if j < i then j else i)) M
  | [d] => match lisO M d with
    | some es => match intsO es with
      | some ns => ns ≠ [] ∧ Q (.int (minL ns)) M
      | none => False
    | none => False
  | _ => False
theorem cd_max (hc : X.calm = true) : CD X (.builtin "max") bMax := by
  intro pins s σ H xs us Q I rv ⟨ds, M, Qm, r, m, h, k⟩
  unfold bMax at h
  split at h
  · rename_i i j
    obtain ⟨v, u, rfl, q, q2⟩ := two_args r
    obtain rfl : v = .int i := q
    obtain rfl : u = .int j := q2
    exact call_max2 hc pins s σ H _ us Q I rv ⟨i, j, rfl, k.go m (d := .int _) rfl h⟩
  · rename_i d
    split at h
    · rename_i es hd
      split at h
      · rename_i ns hn
        obtain ⟨v, rfl, q⟩ := one_arg r
        obtain ⟨p, vs, rfl, hp, rr⟩ := lis_of m q hd
        rw [intsO_map hn] at rr
        rw [Rps.ints.mp rr] at hp
        exact cr_max hc pins s σ H _ us Q I rv ⟨p, ns, rfl, hp, List.length_pos_iff.mpr h.1, fun z h1 h2 => by rw [max_uniq h1 h2]; exact k.go m (d := .int _) rfl h.2⟩
      · exact h.elim
    · exact h.elim
  · exact h.elim
theorem cd_min (hc : X.calm = true) : CD X (.builtin "min") bMin := by
  intro pins s σ H xs us Q I rv ⟨ds, M, Qm, r, m, h, k⟩
  unfold bMin at h
  split at h
  · rename_i i j
    obtain ⟨v, u, rfl, q, q2⟩ := two_args r
    obtain rfl : v = .int i := q
    obtain rfl : u = .int j := q2
    exact call_min2 hc pins s σ H _ us Q I rv ⟨i, j, rfl, k.go m (d := .int _) rfl h⟩
  · rename_i d
    split at h
    · rename_i es hd
      split at h
      · rename_i ns hn
        obtain ⟨v, rfl, q⟩ := one_arg r
        obtain ⟨p, vs, rfl, hp, rr⟩ := lis_of m q hd
        rw [intsO_map hn] at rr
        rw [Rps.ints.mp rr] at hp
        exact cr_min hc pins s σ H _ us Q I rv ⟨p, ns, rfl, hp, List.length_pos_iff.mpr h.1, fun z h1 h2 => by rw [min_uniq h1 h2]; exact k.go m (d := .int _) rfl h.2⟩
      · exact h.elim
    · exact h.elim
  · exact h.elim
def bSum (ds : List D) (M : MH) (Q : Pt) : Prop := match ds with
  | [d] => match lisO M d with
    | some es => match intsO es with
      | some ns => Q (.int ns.sum) M
      | none => False
    | none => False
  | _ => False
theorem cd_sum (hc : X.calm = true) : CD X (.builtin "sum") bSum := by
  intro pins s σ H xs us Q I rv ⟨ds, M, Qm, r, m, h, k⟩
  unfold bSum at h
  split at h
  · rename_i d
    split at h
    · rename_i es hd
      split at h
      · rename_i ns hn
        obtain ⟨v, rfl, q⟩ := one_arg r
        obtain ⟨p, vs, rfl, hp, rr⟩ := lis_of m q hd
        rw [intsO_map hn] at rr
        rw [Rps.ints.mp rr] at hp
        exact cr_sum hc pins s σ H _ us Q I rv ⟨p, ns, rfl, hp, k.go m (d := .int _) rfl h⟩
      · exact h.elim
    · exact h.elim
  · exact h.elim
def bAll (any : Bool) (ds : List D) (M : MH) (Q : Pt) : Prop := match ds with
  | [d] => match lisO M d with
    | some es => match blsO es with
      | some ns => Q (.bl (if any then ns.any id else ns.all id)) M
      | none => False
    | none => False
  | _ => False
theorem cd_all (hc : X.calm = true) : CD X (.builtin "all") (bAll false) := by
  intro pins s σ H xs us Q I rv ⟨ds, M, Qm, r, m, h, k⟩
  unfold bAll at h
  split at h
  · rename_i d
    split at h
    · rename_i es hd
      split at h
      · rename_i ns hn
        obtain ⟨v, rfl, q⟩ := one_arg r
        obtain ⟨p, vs, rfl, hp, rr⟩ := lis_of m q hd
        rw [blsO_map hn] at rr
        rw [Rps.bls.mp rr] at hp
        exact cr_all hc pins s σ H _ us Q I rv ⟨p, ns, rfl, hp, k.go m (d := .bl _) rfl h⟩
      · exact h.elim
    · exact h.elim
  · exact h.elim
theorem cd_any (hc : X.calm = true) : CD X (.builtin "any") (bAll true) := by
  intro pins s σ H xs us Q I rv ⟨ds, M, Qm, r, m, h, k⟩
  unfold bAll at h
  split at h
  · rename_i d
    split at h
    · rename_i es hd
      split at h
      · rename_i ns hn
        obtain ⟨v, rfl, q⟩ := one_arg r
        obtain ⟨p, vs, rfl, hp, rr⟩ := lis_of m q hd
        rw [blsO_map hn] at rr
        rw [Rps.bls.mp rr] at hp
        exact cr_any hc pins s σ H _ us Q I rv ⟨p, ns, rfl, hp, k.go m (d := .bl _) rfl h⟩
      · exact h.elim
    · exact h.elim
  · exact h.elim
/-- list(x), tuple(x) of a list or tuple -/
def bList (ds : List D) (M : MH) (Q : Pt) : Prop := match ds with
  | [d] => match seqO M d with
    | some es => ∀ p, M p = none → Q (.ref p) (updM M p (.lst es))
    | none => False
  | _ => False
def bTuple (ds : List D) (M : MH) (Q : Pt) : Prop := match ds with
  | [d] => match seqO M d with
    | some es => Q (.tup es) M
    | none => False
  | _ => False
theorem cd_list : CD X (.type "list") bList := by
  intro pins s σ H xs us Q I rv ⟨ds, M, Qm, r, m, h, k⟩
  unfold bList at h
  split at h
  · rename_i d
    split at h
    · rename_i es hd
      obtain ⟨v, rfl, q⟩ := one_arg r
      obtain ⟨p, vs, rfl, hp, rr⟩ := seq_of m q hd
      exact call_list_of pins s σ H _ us Q I rv ⟨p, vs, rfl, hp, k.newL m rr h⟩
    · exact h.elim
  · exact h.elim
theorem cd_tuple : CD X (.type "tuple") bTuple := by
  intro pins s σ H xs us Q I rv ⟨ds, M, Qm, r, m, h, k⟩
  unfold bTuple at h
  split at h
  · rename_i d
    split at h
    · rename_i es hd
      obtain ⟨v, rfl, q⟩ := one_arg r
      obtain ⟨p, vs, rfl, hp, rr⟩ := seq_of m q hd
      refine call_tuple_of pins s σ H _ us Q I rv ⟨p, vs, rfl, ?_⟩
      rcases hp with hp | hp
      · exact .inl ⟨hp, k.newT m rr h⟩
      · exact .inr ⟨hp, k.go m (d := .tup es) ⟨p, vs, rfl, hp, rr⟩ h⟩
    · exact h.elim
  · exact h.elim
def wCall (o : List D → MH → Pt → Prop) (a : Wps) : Wp := fun ρ M Q => a ρ M fun ds M1 => o ds M1 Q
theorem cb {σ : St} {H : Hp} {Q : VK} {o : List D → MH → Pt → Prop} {ws : Wps} (h : lt (kw X) S (wCall o ws) σ H Q) :
    lts (kw X) S ws σ H fun xs H1 => ∃ ds M Qm, Rps (kw X) H1 ds xs ∧ RelM (kw X) H1 M ∧ o ds M Qm ∧ Wn (kw X) H1 M Qm Q := by
  obtain ⟨ρ, M, Qm, r, h, k⟩ := h
  exact ⟨ρ, M, _, r, h, fun vs H1 ds M1 q s m h1 => ⟨ds, M1, Qm, q, m, h1, k.of s⟩⟩
theorem se_callB {x : Str} {p : Pos} {e : Expr} {es : List Expr} {id : String} {o : List D → MH → Pt → Prop} {ws : Wps} (hc : CD X (.builtin id) o) (hg : Gl X x) (hm : X.mg x = none) (hv : bootBuiltins x = some (.builtin id)) (ha : SA X S (e :: es) ws)
    (hn : x ≠ "__name__") (hdb : (x == ("__debug__" : Str)) = false) (he : starEach (e :: es) X.env = (false, eval e X.env) :: starEach es X.env) (hpl : (backTo pos (starEach es X.env)).any (·.1) = false) : SE X S (.Call (.Name x p) (e :: es) [] pos) (wCall o ws) :=
  PE.imp' (pe_callB hc hg hm hv ha hn hdb he hpl) fun σ H Q h => cb h
theorem se_callTy {x : Str} {p : Pos} {e : Expr} {es : List Expr} {id : String} {o : List D → MH → Pt → Prop} {ws : Wps} (hc : CD X (.type id) o) (hg : Gl X x) (hm : X.mg x = none) (hv : bootBuiltins x = some (.type id)) (ha : SA X S (e :: es) ws)
    (hn : x ≠ "__name__") (hdb : (x == ("__debug__" : Str)) = false) (he : starEach (e :: es) X.env = (false, eval e X.env) :: starEach es X.env) (hpl : (backTo pos (starEach es X.env)).any (·.1) = false) : SE X S (.Call (.Name x p) (e :: es) [] pos) (wCall o ws) :=
  PE.imp' (pe_callTy hc hg hm hv ha hn hdb he hpl) fun σ H Q h => cb h

/-! ### methods -/
abbrev Mto := D → List D → MH → Pt → Prop
def MD (X : Cx) (id : String) (o : Mto) : Prop := MtR X id fun x xs H Q => ∃ d ds M Qm, Rp (kw X) H d x ∧ Rps (kw X) H ds xs ∧ RelM (kw X) H M ∧ o d ds M Qm ∧ Wn (kw X) H M Qm Q
/-- what kind of thing has the method -/
def isLis (M : MH) (d : D) : Prop := (lisO M d).isSome = true
def mAppend : Mto := fun d ds M Q => match d, ds with
  | .ref a, [y] => match M a with
    | some (.lst xs) => xs.length < sizeLine ∧ Q .non (updM M a (.lst (xs ++ [y])))
    | _ => False
  | _, _ => False
theorem Wn.setL {K : KW} {H : Hp} {M : MH} {Qm : Pt} {Q : VK} (k : Wn K H M Qm Q) (m : RelM K H M) {a : Addr} {o : MO} {ds : List D} {vs : List V} {d : D} {v : V} (ha : M a = some o) (q : Rps K H ds vs) (qv : Rp K H d v) (h : Qm d (updM M a (.lst ds))) :
    Q v (upd H a (.lst vs)) := k.run _ _ d _ (Rp.stay (Stay.upd (m.nofix ha)) _ _ qv) (Go.setL ha) (m.setL ha q) h
theorem md_append : MD X "list.append" mAppend := by
  intro pins s σ H x xs v us Q I rx rv ⟨d, ds, M, Qm, q, qs, m, h, k⟩
  unfold mAppend at h
  split at h
  · rename_i a y
    split at h
    · rename_i zs ha
      obtain rfl : x = .ref a := q
      obtain ⟨w, rfl, qw⟩ := one_arg qs
      obtain ⟨vs, h1, rr⟩ := m.list ha
      exact mt_append pins s σ H _ _ v us Q I rx rv ⟨a, vs, w, rfl, rfl, h1, by rw [rr.length]; exact h.1, k.setL m ha (rr.append (Rps.one qw)) (d := .non) rfl h.2⟩
    · exact h.elim
  · exact h.elim
def mInsert : Mto := fun d ds M Q => match d, ds with
  | .ref a, [.int i, y] => match M a with
    | some (.lst xs) => xs.length < sizeLine ∧ 0 ≤ i ∧ i < 2 ^ 63 ∧ Q .non (updM M a (.lst (xs.take i.toNat ++ [y] ++ xs.drop i.toNat)))
    | _ => False
  | _, _ => False
theorem md_insert : MD X "list.insert" mInsert := by
  intro pins s σ H x xs v us Q I rx rv ⟨d, ds, M, Qm, q, qs, m, h, k⟩
  unfold mInsert at h
  split at h
  · rename_i a i y
    split at h
    · rename_i zs ha
      obtain rfl : x = .ref a := q
      obtain ⟨w, w2, rfl, qw, qw2⟩ := two_args qs
      obtain rfl : w = .int i := qw
      obtain ⟨vs, h1, rr⟩ := m.list ha
      exact mt_insert pins s σ H _ _ v us Q I rx rv ⟨a, vs, i, w2, rfl, rfl, h1, by rw [rr.length]; exact h.1, h.2.1, h.2.2.1,
        k.setL m ha (((rr.take _).append (Rps.one qw2)).append (rr.drop _)) (d := .non) rfl h.2.2.2⟩
    · exact h.elim
  · exact h.elim
def mPop : Mto := fun d ds M Q => match d, ds with
  | .ref a, [] => match M a with
    | some (.lst xs) => match xs[xs.length - 1]? with
      | some y => Q y (updM M a (.lst xs.dropLast))
      | none => False
    | _ => False
  | .ref a, [.int i] => match M a with
    | some (.lst xs) => (-(2 ^ 63) ≤ i ∧ i < 2 ^ 63) ∧ match seqIndex? i xs.length with
      | some k => match xs[k]? with
        | some y => Q y (updM M a (.lst (xs.eraseIdx k)))
        | none => False
      | none => False
    | _ => False
  | _, _ => False
theorem Rps.dropLast {K : KW} {H : Hp} : ∀ {ds : List D} {vs : List V}, Rps K H ds vs → Rps K H ds.dropLast vs.dropLast
  | [], _, h => by rw [show _ = [] from h]; rfl
  | [d], _, ⟨v, r, e, q, qs⟩ => by rw [e, show r = [] from qs]; rfl
  | d :: d2 :: ds, _, ⟨v, r, e, q, ⟨v2, r2, e2, q2, qs2⟩⟩ => by
    subst e; subst e2
    exact ⟨v, _, rfl, q, Rps.dropLast (ds := d2 :: ds) (vs := v2 :: r2) ⟨v2, r2, rfl, q2, qs2⟩⟩
theorem Rps.eraseIdx {K : KW} {H : Hp} : ∀ {ds : List D} {vs : List V} (n : Nat), Rps K H ds vs → Rps K H (ds.eraseIdx n) (vs.eraseIdx n)
  | [], _, _, h => by rw [show _ = [] from h]; rfl
  | d :: ds, _, 0, ⟨v, r, e, q, qs⟩ => by subst e; exact qs
  | d :: ds, _, n + 1, ⟨v, r, e, q, qs⟩ => by subst e; exact ⟨v, _, rfl, q, Rps.eraseIdx n qs⟩
theorem md_pop : MD X "list.pop" mPop := by
  intro pins s σ H x xs v us Q I rx rv ⟨d, ds, M, Qm, q, qs, m, h, k⟩
  unfold mPop at h
  split at h
  · rename_i a
    split at h
    · rename_i zs ha
      split at h
      · rename_i y hy
        obtain rfl : x = .ref a := q
        obtain rfl : xs = [] := no_args qs
        obtain ⟨vs, h1, rr⟩ := m.list ha
        obtain ⟨w, h2, qw⟩ := rr.get hy
        exact mt_pop pins s σ H _ _ v us Q I rx rv ⟨a, vs, w, rfl, rfl, h1, by rw [rr.length]; exact h2, k.setL m ha rr.dropLast qw h⟩
      · exact h.elim
    · exact h.elim
  · rename_i a i
    split at h
    · rename_i zs ha
      obtain ⟨hi, h⟩ := h
      split at h
      · rename_i n hn
        split at h
        · rename_i y hy
          obtain rfl : x = .ref a := q
          obtain ⟨w, rfl, qw⟩ := one_arg qs
          obtain rfl : w = .int i := qw
          obtain ⟨vs, h1, rr⟩ := m.list ha
          obtain ⟨w, h2, qw⟩ := rr.get hy
          exact mt_popAt pins s σ H _ _ v us Q I rx rv ⟨a, vs, i, n, w, rfl, rfl, h1, hi.1, hi.2, by rw [rr.length]; exact hn, h2, k.setL m ha (rr.eraseIdx n) qw h⟩
        · exact h.elim
      · exact h.elim
    · exact h.elim
  · exact h.elim
def mExtend : Mto := fun d ds M Q => match d, ds with
  | .ref a, [.ref b] => match M a, M b with
    | some (.lst xs), some (.lst ys) => xs.length + ys.length ≤ sizeLine ∧ Q .non (updM M a (.lst (xs ++ ys)))
    | _, _ => False
  | _, _ => False
theorem md_extend : MD X "list.extend" mExtend := by
  intro pins s σ H x xs v us Q I rx rv ⟨d, ds, M, Qm, q, qs, m, h, k⟩
  unfold mExtend at h
  split at h
  · rename_i a b
    split at h
    · rename_i zs ys ha hb
      obtain rfl : x = .ref a := q
      obtain ⟨w, rfl, qw⟩ := one_arg qs
      obtain rfl : w = .ref b := qw
      obtain ⟨vs, h1, rr⟩ := m.list ha
      obtain ⟨ws, h2, rs⟩ := m.list hb
      exact mt_extend pins s σ H _ _ v us Q I rx rv ⟨a, b, vs, ws, rfl, rfl, h1, h2, by rw [rr.length, rs.length]; exact h.1, k.setL m ha (rr.append rs) (d := .non) rfl h.2⟩
    · exact h.elim
  · exact h.elim
/-- index by what the data are -/
def findD (d : PyData) : List PyData → Option Nat
  | [] => none
  | z :: r => if PyData.eqv z d = true then some 0 else (findD d r).map (· + 1)
theorem findD_spec {d : PyData} : ∀ {ds : List PyData} {j : Nat}, findD d ds = some j → (∃ z, ds[j]? = some z ∧ PyData.eqv z d = true) ∧ ∀ (m : Nat) (z' : PyData), m < j → ds[m]? = some z' → PyData.eqv z' d = false
  | [], _, h => by cases h
  | z :: r, j, h => by
    unfold findD at h
    split at h
    · rename_i e
      cases h
      exact ⟨⟨z, rfl, e⟩, fun m z' hm => absurd hm (Nat.not_lt_zero _)⟩
    · rename_i e
      obtain ⟨j', h1, rfl⟩ := Option.map_eq_some_iff.mp h
      obtain ⟨⟨w, h2, h3⟩, h4⟩ := findD_spec h1
      refine ⟨⟨w, by simpa using h2, h3⟩, fun m z' hm hz => ?_⟩
      cases m with
      | zero =>
        simp at hz
        subst hz
        exact Bool.eq_false_iff.mpr e
      | succ m => exact h4 m z' (by omega) (by simpa using hz)
def mIndex : Mto := fun d ds M Q => match d, ds with
  | .ref a, [y] => match pyD M pyN (.ref a), pyD M pyN y with
    | some (.list xs), some e => (SeqAt.shaped (.list xs) = true ∧ SeqAt.shaped e = true) ∧ match findD e xs with
      | some j => Q (.int j) M
      | none => False
    | _, _ => False
  | _, _ => False
theorem md_index (hu : X.A.units + 65 < cLine) : MD X "list.index" mIndex := by
  intro pins s σ H x xs v us Q I rx rv ⟨d, ds, M, Qm, q, qs, m, h, k⟩
  unfold mIndex at h
  split at h
  · rename_i a y
    split at h
    · rename_i zs e hz he
      obtain ⟨sh, h⟩ := h
      split at h
      · rename_i j hj
        obtain ⟨w, rfl, qw⟩ := one_arg qs
        have h1 := dp_of m _ _ _ _ q hz
        have h2 := dp_of m _ _ _ _ qw he
        obtain rfl : x = .ref a := q
        obtain ⟨⟨z, z1, z2⟩, z3⟩ := findD_spec hj
        exact mt_indexD hu pins s σ H _ _ v us Q I rx rv ⟨a, w, e, zs, j, z, rfl, rfl, h1, h2, sh.1, sh.2, z1, z2, z3, k.go m (d := .int _) rfl h⟩
      · exact h.elim
    · exact h.elim
  · exact h.elim
def wMth (ty : MH → D → Prop) (o : Mto) (a : Wp) (ws : Wps) : Wp := fun ρ M Q => a ρ M fun x M1 => ty M1 x ∧ ws ρ M1 fun ds M2 => o x ds M2 Q
def tyLis (M : MH) (d : D) : Prop := match d with
  | .ref a => match M a with
    | some (.lst _) => True
    | _ => False
  | _ => False
theorem tyLis.of {K : KW} {H : Hp} {M : MH} {d : D} {v : V} (t : tyLis M d) (m : RelM K H M) (q : Rp K H d v) : tyV K.K "list" v H := by
  unfold tyLis at t
  split at t
  · rename_i a
    split at t
    · rename_i xs ha
      obtain ⟨vs, h1, _⟩ := m.list ha
      rw [show v = .ref a from q]
      exact .inl ⟨rfl, vs, SqL.of h1⟩
    · exact t.elim
  · exact t.elim
def tyStr (M : MH) (d : D) : Prop := match d with
  | .str _ => True
  | _ => False
theorem tyStr.of {K : KW} {H : Hp} {M : MH} {d : D} {v : V} (t : tyStr M d) (m : RelM K H M) (q : Rp K H d v) : tyV K.K "str" v H := by
  unfold tyStr at t
  split at t
  · rw [show v = .str _ from q]; rfl
  · exact t.elim
theorem se_mth {name : Str} {apos cpos : Pos} {o e : Expr} {es : List Expr} {T id : String} {wo : Wp} {ws : Wps} {mo : Mto} {ty : MH → D → Prop} (hty : ∀ {H : Hp} {M : MH} {d : D} {v : V}, ty M d → RelM (kw X) H M → Rp (kw X) H d v → tyV X.K T v H)
    (pa : PlainAttrs T) (slot : Slot T name id) (hd : typeOf (.builtin id) = pure (.type "method_descriptor")) (hm : MD X id mo) (ho : SE X S o wo) (ha : SA X S (e :: es) ws)
    (hbase : attributeBase o name X.env (eval o X.env) = eval o X.env)
    (hfew : ((backTo cpos (starEach (e :: es) X.env)).all (fun x => !x.1) && (backToKw cpos (keywordEach [] X.env)).all (fun x => x.1.isSome)
      && decide ((e :: es).length + ([] : List Keyword).length + (if ([] : List Keyword).isEmpty then 0 else 1) < 30)) = true)
    (hline : (apos.endLine == cpos.line) = true) (hs : starEach (e :: es) X.env = (false, eval e X.env) :: starEach es X.env) (hplain : (backTo cpos (starEach es X.env)).any (·.1) = false) :
    SE X S (.Call (.Attribute o name apos) (e :: es) [] cpos) (wMth ty mo wo ws) :=
  PE.imp' (pe_bm pa slot hd hm ho ha hbase hfew hline hs hplain) fun σ H Q ⟨ρ, M, Qm, r, h, k⟩ => by
    refine ⟨ρ, M, _, r, h, ⟨fun v1 H1 d1 M1 q1 s1 m1 h1 => ⟨hty h1.1 m1 q1, ?_⟩⟩⟩
    refine ⟨ρ, M1, _, r.go s1 m1, h1.2, fun vs H2 ds M2 q2 s2 m2 h2 => ?_⟩
    exact ⟨d1, ds, M2, Qm, Rp.stay (s2.stay m1) _ _ q1, q2, m2, h2, k.of (s1.trans s2)⟩
theorem se_mth0 {name : Str} {apos cpos : Pos} {o : Expr} {T id : String} {wo : Wp} {mo : Mto} {ty : MH → D → Prop} (hty : ∀ {H : Hp} {M : MH} {d : D} {v : V}, ty M d → RelM (kw X) H M → Rp (kw X) H d v → tyV X.K T v H)
    (pa : PlainAttrs T) (slot : Slot T name id) (hd : typeOf (.builtin id) = pure (.type "method_descriptor")) (hm : MD X id mo) (ho : SE X S o wo)
    (hbase : attributeBase o name X.env (eval o X.env) = eval o X.env) (hline : (apos.endLine == cpos.line) = true) : SE X S (.Call (.Attribute o name apos) [] [] cpos) (wMth ty mo wo wNil) :=
  PE.imp' (pe_bm0 pa slot hd hm ho hbase hline) fun σ H Q ⟨ρ, M, Qm, r, h, k⟩ => by
    refine ⟨ρ, M, _, r, h, ⟨fun v1 H1 d1 M1 q1 s1 m1 h1 => ⟨hty h1.1 m1 q1, ?_⟩⟩⟩
    exact ⟨d1, [], M1, Qm, q1, rfl, m1, h1.2, k.of s1⟩
end
end Pz


set_option Elab.async false
set_option linter.all false
set_option autoImplicit false
set_option maxRecDepth 100000
set_option maxHeartbeats 1000000
/-! Statements, targets, loops and comprehensions by data. -/
namespace Pz
open PySem PySem.Spec L2
open PyProof.Rows hiding St

structure ME where
  nx : Ev → MH → Prop
  rt : Pt
  bk : Ev → MH → Prop := fun _ _ => False
  ct : Ev → MH → Prop := fun _ _ => False
abbrev Ws := ME → Ev → MH → Prop
structure Fin (K : KW) (S : Cl) (H : Hp) (M : MH) (E : ME) (N : Ends) : Prop where
  nx : ∀ σ' H' ρ' M', Go H M H' M' → Rl K S σ' H' ρ' M' → E.nx ρ' M' → N.nx σ' H'
  rt : Wn K H M E.rt N.rt
  bk : ∀ σ' H' ρ' M', Go H M H' M' → Rl K S σ' H' ρ' M' → E.bk ρ' M' → N.bk σ' H'
  ct : ∀ σ' H' ρ' M', Go H M H' M' → Rl K S σ' H' ρ' M' → E.ct ρ' M' → N.ct σ' H'
theorem Fin.of {K : KW} {S : Cl} {H H' : Hp} {M M' : MH} {E : ME} {N : Ends} (f : Fin K S H M E N) (g : Go H M H' M') : Fin K S H' M' E N :=
  ⟨fun σ H2 ρ M2 g2 => f.nx σ H2 ρ M2 (g.trans g2), f.rt.of g, fun σ H2 ρ M2 g2 => f.bk σ H2 ρ M2 (g.trans g2), fun σ H2 ρ M2 g2 => f.ct σ H2 ρ M2 (g.trans g2)⟩
def lss (K : KW) (S : Cl) (w : Ws) : TS := fun N σ H => ∃ ρ M E, Rl K S σ H ρ M ∧ w E ρ M ∧ Fin K S H M E N
abbrev SS (X : Cx) (S : Cl) (s : Stmt) (w : Ws) : Prop := PS X s (lss (kw X) S w)
abbrev SSs (X : Cx) (S : Cl) (s : List Stmt) (w : Ws) : Prop := PSs X s (lss (kw X) S w)
theorem PS.imp' {X : Cx} {s : Stmt} {t t' : TS} (h : PS X s t) (k : ∀ N σ H, t' N σ H → t N σ H) : PS X s t' := ⟨fun pins st σ H N I q => h.run pins st σ H N I (k N σ H q)⟩
theorem PSs.imp' {X : Cx} {s : List Stmt} {t t' : TS} (h : PSs X s t) (k : ∀ N σ H, t' N σ H → t N σ H) : PSs X s t' := ⟨fun pins st σ H N I q => h.run pins st σ H N I (k N σ H q)⟩

def wNext : Ws := fun E ρ M => E.nx ρ M
def wSeq (a b : Ws) : Ws := fun E ρ M => a { E with nx := b E } ρ M
def wDrop (a : Wp) : Ws := fun E ρ M => a ρ M fun _ M1 => E.nx ρ M1
def wRet (a : Wp) : Ws := fun E ρ M => a ρ M E.rt
def wRetN : Ws := fun E _ M => E.rt .non M
def wBrk : Ws := fun E ρ M => E.bk ρ M
def wCnt : Ws := fun E ρ M => E.ct ρ M
def wIfS (c : Wp) (a b : Ws) : Ws := fun E ρ M => c ρ M fun x M1 => isB x fun k => if k = true then a E ρ M1 else b E ρ M1
def wSet (i : Nat) (a : Wp) : Ws := fun E ρ M => a ρ M fun d M1 => E.nx (ρ.set i (some d)) M1
def wWhile (c : Wp) (b : Ws) : Ws := fun E ρ M => ∃ W : Nat → Ev → MH → Prop, (∃ m, W m ρ M) ∧ ∀ m ρ M, W m ρ M →
  c ρ M fun x M1 => isB x fun k => if k = true then b { E with nx := fun ρ' M' => ∃ m', m' < m ∧ W m' ρ' M', ct := fun ρ' M' => ∃ m', m' < m ∧ W m' ρ' M', bk := E.nx } ρ M1 else E.nx ρ M1

section
variable {X : Cx} {S : Cl} {a b c : Expr} {wa wb wc : Wp} {pos : Pos} {st : Stmt} {sts : List Stmt} {w u : Ws}
theorem sss_nil : SSs X S [] wNext := PSs.imp' pss_nil fun N σ H ⟨ρ, M, E, r, h, f⟩ => f.nx σ H ρ M (Go.refl H M) r h
theorem seq_in {N : Ends} {σ : St} {H : Hp} (q : lss (kw X) S (wSeq w u) N σ H) : lss (kw X) S w { N with nx := lss (kw X) S u N } σ H := by
  obtain ⟨ρ, M, E, r, h, f⟩ := q
  refine ⟨ρ, M, { E with nx := u E }, r, h, ⟨fun σ' H' ρ' M' g r' q => ⟨ρ', M', E, r', q, f.of g⟩, f.rt, f.bk, f.ct⟩⟩
theorem sss_cons (h1 : SS X S st w) (h2 : SSs X S sts u) : SSs X S (st :: sts) (wSeq w u) := PSs.imp' (pss_cons h1 h2) fun N σ H q => seq_in q
theorem ss_pass : SS X S (.Pass pos) wNext := PS.imp' ps_pass fun N σ H ⟨ρ, M, E, r, h, f⟩ => f.nx σ H ρ M (Go.refl H M) r h
theorem ss_brk : SS X S (.Break pos) wBrk := PS.imp' ps_break fun N σ H ⟨ρ, M, E, r, h, f⟩ => f.bk σ H ρ M (Go.refl H M) r h
theorem ss_cnt : SS X S (.Continue pos) wCnt := PS.imp' ps_continue fun N σ H ⟨ρ, M, E, r, h, f⟩ => f.ct σ H ρ M (Go.refl H M) r h
theorem ss_doc {x j} {pos' : Pos} : SS X S (.Expr (.Constant (.str x) j pos) pos') wNext := PS.imp' ps_doc fun N σ H ⟨ρ, M, E, r, h, f⟩ => f.nx σ H ρ M (Go.refl H M) r h
theorem ss_expr (ha : SE X S a wa) (hs : swapsWith a none pos.line X.env = pure false) : SS X S (.Expr a pos) (wDrop wa) :=
  PS.imp' (ps_expr ha hs) fun N σ H ⟨ρ, M, E, r, h, f⟩ => ⟨ρ, M, _, r, h, ⟨fun v H1 d M1 q s m h1 => f.nx σ H1 ρ M1 s (r.go s m) h1⟩⟩
theorem ss_ret (ha : SE X S a wa) : SS X S (.Return (some a) pos) (wRet wa) := PS.imp' (ps_ret ha) fun N σ H ⟨ρ, M, E, r, h, f⟩ => ⟨ρ, M, E.rt, r, h, f.rt⟩
theorem ss_retN : SS X S (.Return none pos) wRetN := PS.imp' ps_retN fun N σ H ⟨ρ, M, E, r, h, f⟩ => f.rt.go r.m (d := .non) rfl h
theorem ss_if {p q : List Stmt} (hc : ST X S c wc) (hp : SSs X S p w) (hq : SSs X S q u) : SS X S (.If c p q pos) (wIfS wc w u) :=
  PS.imp' (ps_if hc hp hq) fun N σ H ⟨ρ, M, E, r, h, f⟩ => tst r h fun k H' M' s m q => by
    cases k with
    | true => exact ⟨ρ, M', E, r.go s m, q, f.of s⟩
    | false => exact ⟨ρ, M', E, r.go s m, q, f.of s⟩
theorem ss_set {i : Nat} {x : Str} {pos' : Pos} (hN : X.N.Nodup) (hi : X.N[i]? = some x) (hx : Loc X.env.scope x) (ha : SE X S a wa) (hs : swapsWith a (some (.Name x pos')) pos.line X.env = pure false) (hf : X.fn x = true ∨ X.env.scope.names.lookup x = some .local) :
    SS X S (.Assign [.Name x pos'] a pos) (wSet i wa) :=
  PS.imp' (ps_set hN hi hx ha hs hf) fun N σ H ⟨ρ, M, E, r, h, f⟩ => ⟨ρ, M, _, r, h, ⟨fun v H1 d M1 q s m h1 => f.nx _ H1 _ M1 s ((r.go s m).set q i) h1⟩⟩
theorem ss_while {body : List Stmt} (hp : PassesOwn (model X.prog X.w) X.A X.env X.xe) (hc : ST X S c wc) (hb : SSs X S body w) : SS X S (.While c body [] pos) (wWhile wc w) :=
  PS.imp' (ps_while hp hc hb) fun N σ H ⟨ρ, M, E, r, ⟨W, ⟨m0, w0⟩, turn⟩, f⟩ => by
    refine ⟨fun n σ' H' => ∃ ρ' M', Rl (kw X) S σ' H' ρ' M' ∧ Go H M H' M' ∧ W n ρ' M', ⟨m0, ρ, M, r, Go.refl H M, w0⟩, ?_⟩
    rintro n σ' H' ⟨ρ', M', r', g', w'⟩
    refine tst r' (turn n ρ' M' w') fun k H2 M2 s m q => ?_
    cases k with
    | false => exact f.nx σ' H2 ρ' M2 (g'.trans s) (r'.go s m) q
    | true =>
      have fin : ∀ σ3 H3 ρ3 M3, Go H2 M2 H3 M3 → Rl (kw X) S σ3 H3 ρ3 M3 → (∃ m', m' < n ∧ W m' ρ3 M3) → ∃ m', m' < n ∧ ∃ ρ' M', Rl (kw X) S σ3 H3 ρ' M' ∧ Go H M H3 M' ∧ W m' ρ' M' :=
        fun σ3 H3 ρ3 M3 g3 r3 ⟨m', lt, w3⟩ => ⟨m', lt, ρ3, M3, r3, (g'.trans s).trans g3, w3⟩
      refine ⟨fun σ3 H3 => ∃ m', m' < n ∧ ∃ ρ' M', Rl (kw X) S σ3 H3 ρ' M' ∧ Go H M H3 M' ∧ W m' ρ' M', fun σ3 H3 z => z, ?_⟩
      refine ⟨ρ', M2, _, r'.go s m, q, ⟨fin, f.rt.of (g'.trans s), fun σ3 H3 ρ3 M3 g3 r3 q3 => f.nx σ3 H3 ρ3 M3 ((g'.trans s).trans g3) r3 q3, fin⟩⟩

/-! ### targets -/
abbrev Tgt := D → Ev → Option Ev
/-- but for the slots named as it was -/
def Out (is : List Nat) (σ σ' : St) : Prop := σ'.length = σ.length ∧ ∀ j, j ∉ is → σ'[j]? = σ[j]?
def ltg (K : KW) (S : Cl) (is : List Nat) (g : Tgt) : TG := fun v σ H Q => ∃ d ρ M ρ', Rp K H d v ∧ Rl K S σ H ρ M ∧ g d ρ = some ρ' ∧ ∀ σ', Rl K S σ' H ρ' M → Out is σ σ' → Q σ' H
abbrev SG (X : Cx) (S : Cl) (e : Expr) (is : List Nat) (g : Tgt) : Prop := PG X e (ltg (kw X) S is g)
theorem PG.imp' {e : Expr} {t t' : TG} (h : PG X e t) (k : ∀ v σ H Q, t' v σ H Q → t v σ H Q) : PG X e t' := ⟨fun pins s σ H v u Q I r q => h.run pins s σ H v u Q I r (k v σ H Q q)⟩
theorem PGs.imp' {e : List Expr} {t t' : TGs} (h : PGs X e t) (k : ∀ v σ H Q, t' v σ H Q → t v σ H Q) : PGs X e t' := ⟨fun pins s σ H v u Q I r q => h.run pins s σ H v u Q I r (k v σ H Q q)⟩
def tgN (i : Nat) : Tgt := fun d ρ => some (ρ.set i (some d))
def setAll : List Nat → List D → Ev → Option Ev
  | [], [], ρ => some ρ
  | i :: is, d :: ds, ρ => setAll is ds (ρ.set i (some d))
  | _, _, _ => none
def tgT (is : List Nat) : Tgt := fun d ρ => match d.nrm with
  | .tup ds => setAll is ds ρ
  | _ => none
theorem sg_name {i : Nat} {x : Str} (hN : X.N.Nodup) (hi : X.N[i]? = some x) (hx : Loc X.env.scope x) (hf : X.fn x = true ∨ X.env.scope.names.lookup x = some .local) : SG X S (.Name x pos) [i] (tgN i) :=
  PG.imp' (pg_name hN hi hx hf) fun v σ H Q ⟨d, ρ, M, ρ', q, r, e, k⟩ => by
    cases e
    exact k _ (r.set q i) ⟨by rw [List.length_set], fun j hj => List.getElem?_set_ne (fun z => hj (by rw [z]; exact List.mem_singleton.mpr rfl))⟩
def ltgs (K : KW) (S : Cl) (is : List Nat) : TGs := fun vs σ H Q => ∃ ds ρ M ρ', Rps K H ds vs ∧ Rl K S σ H ρ M ∧ setAll is ds ρ = some ρ' ∧ ∀ σ', Rl K S σ' H ρ' M → Out is σ σ' → Q σ' H
abbrev SGs (X : Cx) (S : Cl) (es : List Expr) (is : List Nat) : Prop := PGs X es (ltgs (kw X) S is)
theorem setAll_len : ∀ {is : List Nat} {ds : List D} {ρ ρ' : Ev}, setAll is ds ρ = some ρ' → is.length = ds.length
  | [], [], _, _, _ => rfl
  | [], _ :: _, _, _, h => by cases h
  | _ :: _, [], _, _, h => by cases h
  | i :: is, d :: ds, ρ, ρ', h => by rw [List.length_cons, List.length_cons, setAll_len (is := is) (ds := ds) h]
theorem sgs_nil : SGs X S [] [] := PGs.imp' pgs_nil fun vs σ H Q ⟨ds, ρ, M, ρ', q, r, e, k⟩ => by
  have hl := setAll_len e
  have : ds = [] := List.length_eq_zero_iff.mp hl.symm
  subst this
  cases e
  exact ⟨q, k σ r ⟨rfl, fun _ _ => rfl⟩⟩
theorem sgs_cons {i : Nat} {is : List Nat} {e : Expr} {es : List Expr} (h1 : SG X S e [i] (tgN i)) (h2 : SGs X S es is) (hs : (assignEach (e :: es) X.env).map (·.2) = assign e X.env :: (assignEach es X.env).map (·.2)) : SGs X S (e :: es) (i :: is) :=
  PGs.imp' (pgs_cons h1 h2 hs) fun vs σ H Q ⟨ds, ρ, M, ρ', q, r, e, k⟩ => by
    cases ds with
    | nil => cases e
    | cons d ds =>
      obtain ⟨v, rest, ev, qv, qs⟩ := q
      refine ⟨v, rest, ev, d, ρ, M, _, qv, r, rfl, fun σ' r' o' => ?_⟩
      exact ⟨ds, _, M, ρ', qs, r', e, fun σ2 r2 o2 => k σ2 r2 ⟨o2.1.trans o'.1, fun j hj => (o2.2 j fun z => hj (List.mem_cons_of_mem _ z)).trans (o'.2 j fun z => hj (by rw [List.mem_singleton.mp z]; exact List.mem_cons_self))⟩⟩
theorem sg_tup {es : List Expr} {is : List Nat} {k n : Nat} (hc : X.calm = true) (h : SGs X S es is) (hn : (assignEach es X.env).length = n) (hl : is.length = n) (hst : (assignEach es X.env).findIdx? (·.1) = none) : SG X S (.Tuple es k pos) is (tgT is) :=
  PG.imp' (pg_tup hc h hn hst) fun v σ H Q ⟨d, ρ, M, ρ', q, r, e, kk⟩ => by
    unfold tgT at e
    replace q := q.nrm
    generalize d.nrm = d at e q
    split at e
    · rename_i ds
      obtain ⟨p, vs, rfl, hp, rv⟩ := q
      exact ⟨p, vs, rfl, hp, by rw [rv.length, ← setAll_len e, hl], ds, ρ, M, ρ', rv, r, e, kk⟩
    · cases e
/-- a, b = a list -/
def wSetT (lst : Bool) (is : List Nat) (a : Wp) : Ws := fun E ρ M => a ρ M fun d M1 => match lst, d.nrm with
  | false, .tup ds => (match setAll is ds ρ with | some ρ' => E.nx ρ' M1 | none => False)
  | true, .ref p => (match M1 p with
    | some (.lst ds) => (match setAll is ds ρ with | some ρ' => E.nx ρ' M1 | none => False)
    | _ => False)
  | _, _ => False
theorem ss_setT {es : List Expr} {is : List Nat} {k n : Nat} {pos' : Pos} (hc : X.calm = true) (ha : SE X S a wa) (h : SGs X S es is) (hn : (assignEach es X.env).length = n) (hl : is.length = n) (hst : (assignEach es X.env).findIdx? (·.1) = none)
    (hs : swapsWithSole [.Tuple es k pos'] a pos.line X.env = pure false) (hw : swappedStores [.Tuple es k pos'] a X.env = pure none) (h1 : (assignEach [.Tuple es k pos'] X.env).map (·.2) = [assign (.Tuple es k pos') X.env]) :
    SS X S (.Assign [.Tuple es k pos'] a pos) (wSetT false is wa) :=
  PS.imp' (ps_asg ha (pg_tup (k := k) (pos := pos') hc h hn hst) hs hw h1) fun N σ H ⟨ρ, M, E, r, hh, f⟩ => by
    refine ⟨ρ, M, _, r, hh, ⟨fun v H1 d M1 q s m h1 => ?_⟩⟩
    simp only at h1
    replace q := q.nrm
    generalize d.nrm = d at h1 q
    split at h1
    · rename_i ds _
      split at h1
      · rename_i ρ' e
        obtain ⟨p, vs, rfl, hp, rv⟩ := q
        exact ⟨p, vs, rfl, hp, by rw [rv.length, ← setAll_len e, hl], ds, ρ, M1, ρ', rv, r.go s m, e, fun σ' r' _ => f.nx σ' H1 ρ' M1 s r' h1⟩
      · exact h1.elim
    · rename_i hb; cases hb
    · exact h1.elim
theorem ss_setU {es : List Expr} {is : List Nat} {k n : Nat} {pos' : Pos} (hc : X.calm = true) (ha : SE X S a wa) (h : SGs X S es is) (hn : (assignEach es X.env).length = n) (hl : is.length = n) (hst : (assignEach es X.env).findIdx? (·.1) = none)
    (hs : swapsWithSole [.Tuple es k pos'] a pos.line X.env = pure false) (hw : swappedStores [.Tuple es k pos'] a X.env = pure none) (h1 : (assignEach [.Tuple es k pos'] X.env).map (·.2) = [assign (.Tuple es k pos') X.env]) :
    SS X S (.Assign [.Tuple es k pos'] a pos) (wSetT true is wa) :=
  PS.imp' (ps_asg ha (pg_unl (k := k) (pos := pos') hc h hn hst) hs hw h1) fun N σ H ⟨ρ, M, E, r, hh, f⟩ => by
    refine ⟨ρ, M, _, r, hh, ⟨fun v H1 d M1 q s m h1 => ?_⟩⟩
    simp only at h1
    replace q := q.nrm
    generalize d.nrm = d at h1 q
    split at h1
    · rename_i hb; cases hb
    · rename_i p _
      split at h1
      · rename_i ds hp
        split at h1
        · rename_i ρ' e
          obtain rfl : v = .ref p := q
          obtain ⟨vs, h2, rv⟩ := m.list hp
          exact ⟨p, vs, rfl, SqL.of h2, by rw [rv.length, ← setAll_len e, hl], ds, ρ, M1, ρ', rv, r.go s m, e, fun σ' r' _ => f.nx σ' H1 ρ' M1 s r' h1⟩
        · exact h1.elim
      · exact h1.elim
    · exact h1.elim
/-- a, b = x, y -/
def wPar (i j : Nat) (a : Wps) : Ws := fun E ρ M => a ρ M fun ds M1 => match ds with
  | [x, y] => E.nx ((ρ.set i (some x)).set j (some y)) M1
  | _ => False
theorem ss_par {i j : Nat} {x y : Str} {ws : Wps} {px py pt : Pos} {kt k2 : Nat} {pt2 : Pos} (hc : X.calm = true) (hN : X.N.Nodup) (hi : X.N[i]? = some x) (hj : X.N[j]? = some y) (hij : i ≠ j)
    (hx : X.env.scope.names.lookup x = some .local) (hy : X.env.scope.names.lookup y = some .local) (ha : SA X S [a, b] ws)
    (hw : swappedStores [.Tuple [.Name x px, .Name y py] kt pt] (.Tuple [a, b] k2 pt2) X.env = pure (some [x, y]))
    (hs : swapsWithSole [.Tuple [.Name x px, .Name y py] kt pt] (.Tuple [a, b] k2 pt2) pos.line X.env = pure false) :
    SS X S (.Assign [.Tuple [.Name x px, .Name y py] kt pt] (.Tuple [a, b] k2 pt2) pos) (wPar i j ws) :=
  PS.imp' (ps_par hc hN hi hj hij hx hy ha hw hs) fun N σ H ⟨ρ, M, E, r, h, f⟩ => by
    refine ⟨ρ, M, _, r, h, fun vs H1 ds M1 q s m h1 => ?_⟩
    split at h1
    · rename_i dx dy
      obtain ⟨v, u, rfl, q1, q2⟩ := two_args q
      exact ⟨v, u, rfl, f.nx _ H1 _ M1 s (((r.go s m).set q1 i).set q2 j) h1⟩
    · exact h1.elim
/-- o[i] = v -/
abbrev Ost := D → D → D → MH → (MH → Prop) → Prop
def oStL : Ost := fun o i v M Q => match o, i with
  | .ref a, .int k => match M a with
    | some (.lst xs) => (match ixN xs.length k with
      | some j => Q (updM M a (.lst (xs.set j v)))
      | none => False)
    | _ => False
  | _, _ => False
def StD (X : Cx) (o : Ost) : Prop := PSet X fun x y z H Q => ∃ dx dy dz M Qm, Rp (kw X) H dx x ∧ Rp (kw X) H dy y ∧ Rp (kw X) H dz z ∧ RelM (kw X) H M ∧ o dx dy dz M Qm ∧ ∀ H' M', Go H M H' M' → RelM (kw X) H' M' → Qm M' → Q H'
theorem std_list : StD X oStL := by
  intro pins s σ H x y z vx vy vz Q I rx ry rz ⟨dx, dy, dz, M, Qm, qx, qy, qz, m, h, k⟩
  unfold oStL at h
  split at h
  · rename_i p i
    split at h
    · rename_i xs hp
      split at h
      · rename_i j hj
        obtain rfl : x = .ref p := qx
        obtain rfl : y = .int i := qy
        obtain ⟨vs, h1, rv⟩ := m.list hp
        exact set_list pins s σ H _ _ _ vx vy vz Q I rx ry rz ⟨p, vs, i, j, rfl, rfl, h1, by rw [rv.length]; exact hj, k _ _ (Go.setL hp) (m.setL hp (rv.set qz j)) h⟩
      · exact h.elim
    · exact h.elim
  · exact h.elim
def wStI (o : Ost) (ao ai av : Wp) : Ws := fun E ρ M => av ρ M fun v M1 => ao ρ M1 fun x M2 => ai ρ M2 fun y M3 => o x y v M3 fun M4 => E.nx ρ M4
theorem ss_stI {os : Ost} {pos' : Pos} (hs : StD X os) (ha : SE X S a wa) (hb : SE X S b wb) (hcv : SE X S c wc)
    (hass : ∀ v, assign (.Subscript a b pos') X.env v = (do
      let ov ← holding [v] (eval a X.env)
      let iv ← holding [v, ov] (eval b X.env)
      standAt pos'
      holding [v, ov, iv] (setItem ov iv v)
      release [v, ov, iv] []))
    (hsw : swapsWithSole [.Subscript a b pos'] c pos.line X.env = pure false) (hw : swappedStores [.Subscript a b pos'] c X.env = pure none) (h1 : (assignEach [.Subscript a b pos'] X.env).map (·.2) = [assign (.Subscript a b pos') X.env]) :
    SS X S (.Assign [.Subscript a b pos'] c pos) (wStI os wa wb wc) :=
  PS.imp' (ps_asg hcv (pg_sub (pos := pos') ha hb hs hass) hsw hw h1) fun N σ H ⟨ρ, M, E, r, h, f⟩ => by
    refine ⟨ρ, M, _, r, h, ⟨fun v1 H1 d1 M1 q1 s1 m1 h1 => ?_⟩⟩
    refine ⟨ρ, M1, _, r.go s1 m1, h1, ⟨fun v2 H2 d2 M2 q2 s2 m2 h2 => ?_⟩⟩
    refine ⟨ρ, M2, _, (r.go s1 m1).go s2 m2, h2, ⟨fun v3 H3 d3 M3 q3 s3 m3 h3 => ?_⟩⟩
    refine ⟨d2, d3, d1, M3, _, Rp.stay (s3.stay m2) _ _ q2, q3, Rp.stay ((s2.trans s3).stay m1) _ _ q1, m3, h3, fun H4 M4 s4 m4 h4 => ?_⟩
    exact f.nx σ H4 ρ M4 (((s1.trans s2).trans s3).trans s4) ((((r.go s1 m1).go s2 m2).go s3 m3).go s4 m4) h4

/-! ### what is walked -/
structure ItOk (K : KW) (Hb : Hp) (Mb : MH) (J : It) (ds : List D) (chk : MH → Prop) : Prop where
  go : ∀ (i : Nat) (H : Hp) (M : MH) (d : D), Go Hb Mb H M → RelM K H M → chk M → ds[i]? = some d → J.go i H ∧ ∀ x H', J.yld i H x H' → Go H M H' M ∧ RelM K H' M ∧ Rp K H' d x
  stop : ∀ (i : Nat) (H : Hp) (M : MH), Go Hb Mb H M → RelM K H M → chk M → ds.length ≤ i → J.stop i H
abbrev Wi := Ev → MH → (List D → (MH → Prop) → MH → Prop) → Prop
def li (K : KW) (S : Cl) (wi : Wi) : TI := fun σ H R => ∃ (ρ : Ev) (M : MH) (Qm : List D → (MH → Prop) → MH → Prop), Rl K S σ H ρ M ∧ wi ρ M Qm ∧
  ∀ ds chk H' M' J, Go H M H' M' → RelM K H' M' → ItOk K H' M' J ds chk → Qm ds chk M' → R J H'
abbrev SI (X : Cx) (S : Cl) (tg e : Expr) (wi : Wi) : Prop := PI X tg e (li (kw X) S wi)
theorem PI.imp' {tg e : Expr} {t t' : TI} (h : PI X tg e t) (k : ∀ σ H R, t' σ H R → t σ H R) : PI X tg e t' := ⟨fun pins s σ H R I q => h.run pins s σ H R I (k σ H R q)⟩
theorem it_list {Hb : Hp} {Mb : MH} {p : Addr} {ds : List D} : ItOk (kw X) Hb Mb (Itl X.K p) ds (fun M => M p = some (.lst ds)) := by
  refine ⟨fun i H M d g m ck hd => ?_, fun i H M g m ck hi => ?_⟩
  · obtain ⟨vs, h1, rv⟩ := m.list ck
    obtain ⟨v, h2, q⟩ := rv.get hd
    refine ⟨⟨vs, v, SqL.of h1, h2⟩, fun x H' y => ?_⟩
    obtain ⟨rfl, y⟩ := y
    have e := y vs (SqL.of h1)
    rw [h2] at e; cases e
    exact ⟨Go.refl _ _, m, q⟩
  · obtain ⟨vs, h1, rv⟩ := m.list ck
    exact ⟨vs, SqL.of h1, by rw [rv.length]; exact hi⟩
theorem it_fz {Hb : Hp} {Mb : MH} {p : Addr} {vs : List V} {ds : List D} (mb : RelM (kw X) Hb Mb) (hp : SqF (kw X) Hb p vs) (rv : Rps (kw X) Hb ds vs) : ItOk (kw X) Hb Mb (Itl X.K p) ds (fun _ => True) := by
  refine ⟨fun i H M d g m ck hd => ?_, fun i H M g m ck hi => ?_⟩
  · have hp' := (g.stay mb).sqF hp
    obtain ⟨v, h2, q⟩ := rv.get hd
    refine ⟨⟨vs, v, hp'.sqL, h2⟩, fun x H' y => ?_⟩
    obtain ⟨rfl, y⟩ := y
    have e := y vs hp'.sqL
    rw [h2] at e; cases e
    exact ⟨Go.refl _ _, m, Rp.stay (g.stay mb) _ _ q⟩
  · exact ⟨vs, ((g.stay mb).sqF hp).sqL, by rw [rv.length]; exact hi⟩
theorem it_tup {Hb : Hp} {Mb : MH} {p : Addr} {vs : List V} {ds : List D} (mb : RelM (kw X) Hb Mb) (hp : SqT X.K Hb p vs) (rv : Rps (kw X) Hb ds vs) : ItOk (kw X) Hb Mb (Itt X.K p) ds (fun _ => True) := by
  refine ⟨fun i H M d g m ck hd => ?_, fun i H M g m ck hi => ?_⟩
  · have hp' := (g.stay mb).sqT hp
    obtain ⟨v, h2, q⟩ := rv.get hd
    refine ⟨⟨vs, v, hp', h2⟩, fun x H' y => ?_⟩
    obtain ⟨rfl, y⟩ := y
    have e := y vs hp'
    rw [h2] at e; cases e
    exact ⟨Go.refl _ _, m, Rp.stay (g.stay mb) _ _ q⟩
  · exact ⟨vs, (g.stay mb).sqT hp, by rw [rv.length]; exact hi⟩
def strD (x : Str) : List D := x.cps.toList.map fun c => .str ⟨#[c]⟩
theorem it_str {Hb : Hp} {Mb : MH} {x : Str} : ItOk (kw X) Hb Mb (Its x) (strD x) (fun _ => True) := by
  refine ⟨fun i H M d g m ck hd => ?_, fun i H M g m ck hi => ?_⟩
  · unfold strD at hd
    rw [List.getElem?_map] at hd
    obtain ⟨c, h1, rfl⟩ := Option.map_eq_some_iff.mp hd
    have h2 : x.cps[i]? = some c := by simpa using h1
    refine ⟨(Array.getElem?_eq_some_iff.mp h2).1, fun v H' y => ?_⟩
    obtain ⟨rfl, c', h3, rfl⟩ := y
    rw [h2] at h3; cases h3
    exact ⟨Go.refl _ _, m, rfl⟩
  · unfold strD at hi
    rw [List.length_map, Array.length_toList] at hi
    exact hi
def itV (d : D) (M : MH) (Q : List D → (MH → Prop) → MH → Prop) : Prop := match d.nrm with
  | .tup ds => Q ds (fun _ => True) M
  | .fz ds => Q ds (fun _ => True) M
  | .ref a => match M a with
    | some (.lst ds) => Q ds (fun M' => M' a = some (.lst ds)) M
    | _ => False
  | .str x => Q (strD x) (fun _ => True) M
  | _ => False
def wiV (a : Wp) : Wi := fun ρ M Q => a ρ M fun d M1 => itV d M1 Q
section
variable {pins : List (Addr × Obj)} {σ : St} {H : Hp} {s : Shared} {tg : Expr} {R : It → Hp → Prop} {p : Addr} {vs : List V} {E : Value → Shared → Prop}
theorem start_list (I : Inv X pins σ H s) (hp : SqL X.K H p vs) (q : R (Itl X.K p) H) : wpAny (model X.prog X.w) X.A (pyIter (.ref p)) (PIE X pins σ tg R) E s := by
  obtain ⟨us, _, pl, _⟩ := I.list hp
  have old : Inv X pins σ H { s with heap := s.heap.push { cls := .type "list_iterator", data := .fields #[.ref p, .int 0 0] } } := I.kept (t' := s.toks) fun _ _ z => Heap.get?_push_of_some _ z
  apply wpAny_pyIter_list pl.isList
  exact ⟨_, [s.heap.objs.size], _, _, H, rfl, old, turn_list p _, ⟨_, Heap.get?_push_size _ rfl, rfl, rfl⟩, fun b hb => by
    cases List.mem_singleton.mp hb
    exact I.fpOk (Nat.le_refl _) (I.hok.fresh (Nat.le_refl _)), q⟩
theorem start_tuple (I : Inv X pins σ H s) (hp : SqT X.K H p vs) (q : R (Itt X.K p) H) : wpAny (model X.prog X.w) X.A (pyIter (.ref p)) (PIE X pins σ tg R) E s := by
  obtain ⟨us, _, pl, _⟩ := I.tuple hp
  have old : Inv X pins σ H { s with heap := s.heap.push { cls := .type "tuple_iterator", data := .fields #[.ref p, .int 0 0] } } := I.kept (t' := s.toks) fun _ _ z => Heap.get?_push_of_some _ z
  apply wpAny_pyIter_tuple (items := us.toArray) pl
  exact ⟨_, [s.heap.objs.size], _, _, H, rfl, old, turn_tuple p _, ⟨_, Heap.get?_push_size _ rfl, rfl, rfl⟩, fun b hb => by
    cases List.mem_singleton.mp hb
    exact I.fpOk (Nat.le_refl _) (I.hok.fresh (Nat.le_refl _)), q⟩
theorem start_str {pins : List (Addr × Obj)} {σ : St} {H : Hp} {s : Shared} {tg : Expr} {R : It → Hp → Prop} {E : Value → Shared → Prop} {x : Str} {t : Tok} (I : Inv X pins σ H s) (q : R (Its x) H) : wpAny (model X.prog X.w) X.A (pyIter (.str x t)) (PIE X pins σ tg R) E s := by
  by_cases asc : x.cps.all (· < 128) = true
  · refine wpAny_pyIter_ascii asc (pi_one (tk := s.toks) I _ (turn_str _ x t _ (.inl rfl)) ?_ q)
    exact ⟨_, Heap.get?_push_size _ rfl, rfl, rfl⟩
  · refine wpAny_pyIter_wide (Bool.eq_false_iff.mpr asc) (pi_one (tk := s.toks) I _ (turn_str _ x t _ (.inr rfl)) ?_ q)
    exact ⟨_, Heap.get?_push_size _ rfl, rfl, rfl⟩
theorem si_val {tg e : Expr} {w : Wp} (he : SE X S e w) : SI X S tg e (wiV w) := by
  refine ⟨fun pins s σ H R I ⟨ρ, M, Qm, r, h, k⟩ => ?_⟩
  refine thn (he.run pins s σ H (fun v H1 => ∃ d M1, Rp (kw X) H1 d v ∧ Go H M H1 M1 ∧ RelM (kw X) H1 M1 ∧ itV d M1 Qm) I ⟨ρ, M, _, r, h, ⟨fun v H1 d M1 q s m h1 => ⟨d, M1, q, s, m, h1⟩⟩⟩) fun u s1 ⟨v, H1, I1, r1, d, M1, q, g, m, h1⟩ => ?_
  unfold itV at h1
  replace q := q.nrm
  generalize d.nrm = d at h1 q
  split at h1
  · obtain ⟨p, vs, rfl, hp, rv⟩ := q
    cases r1
    exact start_tuple I1 hp (k _ _ _ _ _ g m (it_tup m hp rv) h1)
  · obtain ⟨p, vs, rfl, hp, rv⟩ := q
    cases r1
    exact start_list I1 hp.sqL (k _ _ _ _ _ g m (it_fz m hp rv) h1)
  · rename_i p
    split at h1
    · rename_i ds hp
      obtain rfl : v = .ref p := q
      cases r1
      obtain ⟨vs, h2, rv⟩ := m.list hp
      exact start_list I1 (SqL.of h2) (k _ _ _ _ _ g m it_list h1)
    · exact h1.elim
  · rename_i x
    obtain rfl : v = .str x := q
    obtain ⟨t, rfl⟩ := r1
    exact start_str I1 (k _ _ _ _ _ g m it_str h1)
  · exact h1.elim
/-- range -/
def rngD (i : Int) (n : Nat) : List D := (List.range n).map fun k : Nat => .int (i + k)
theorem it_rng {Hb : Hp} {Mb : MH} {lo : Int} {n : Nat} : ItOk (kw X) Hb Mb (Itr lo n) (rngD lo n) (fun _ => True) := by
  refine ⟨fun i H M d g m ck hd => ?_, fun i H M g m ck hi => ?_⟩
  · unfold rngD at hd
    rw [List.getElem?_map] at hd
    obtain ⟨j, h1, rfl⟩ := Option.map_eq_some_iff.mp hd
    obtain ⟨h2, h3⟩ := List.getElem?_eq_some_iff.mp h1
    rw [List.getElem_range] at h3
    rw [List.length_range] at h2
    subst h3
    refine ⟨h2, fun v H' y => ?_⟩
    obtain ⟨rfl, rfl⟩ := y
    exact ⟨Go.refl _ _, m, rfl⟩
  · unfold rngD at hi
    rw [List.length_map, List.length_range] at hi
    exact hi
def rgOk (i : Int) : Prop := -(2 ^ 62) ≤ i ∧ i < 2 ^ 62
def wiR1 (a : Wp) : Wi := fun ρ M Q => a ρ M fun d M1 => isI d fun j => rgOk j ∧ Q (rngD 0 j.toNat) (fun _ => True) M1
def wiR2 (a b : Wp) : Wi := fun ρ M Q => a ρ M fun d M1 => b ρ M1 fun e M2 => isI d fun i => isI e fun j => rgOk i ∧ rgOk j ∧ Q (rngD i (j - i).toNat) (fun _ => True) M2
theorem si_rng1 {tg : Expr} {p : Pos} (hg : Gl X "range") (hm : X.mg "range" = none) (ha : SE X S a wa) (hs : starEach [a] X.env = [(false, eval a X.env)]) : SI X S tg (.Call (.Name "range" p) [a] [] pos) (wiR1 wa) :=
  PI.imp' (pi_range1 hg hm (sa_cons ha sa_nil (hs.trans rfl)) hs) fun σ H R ⟨ρ, M, Qm, r, h, k⟩ => by
    refine ⟨ρ, M, fun ds M' => ∃ d, ds = [d] ∧ isI d fun j => rgOk j ∧ Qm (rngD 0 j.toNat) (fun _ => True) M', r, ?_, fun vs H' ds M' q g m h1 => ?_⟩
    · unfold wiR1 at h
      show wa ρ M fun x M1 => ∃ d, [x] = [d] ∧ _
      have e : (fun (d : D) (M1 : MH) => isI d fun j => rgOk j ∧ Qm (rngD 0 j.toNat) (fun _ => True) M1) = fun x M1 => ∃ d, [x] = [d] ∧ isI d fun j => rgOk j ∧ Qm (rngD 0 j.toNat) (fun _ => True) M1 := by
        funext x M1
        apply propext
        exact ⟨fun z => ⟨x, rfl, z⟩, fun ⟨d, e, z⟩ => by cases e; exact z⟩
      rw [← e]; exact h
    · obtain ⟨d, rfl, h1⟩ := h1
      obtain ⟨j, rfl, h3, h2⟩ := isI.of h1
      obtain ⟨v, rfl, qv⟩ := one_arg q
      obtain rfl : v = .int j := qv
      exact ⟨j, rfl, h3.1, h3.2, k _ _ _ _ _ g m it_rng h2⟩
theorem si_rng2 {tg : Expr} {p : Pos} (hg : Gl X "range") (hm : X.mg "range" = none) (ha : SE X S a wa) (hb : SE X S b wb) (hs2 : starEach [b] X.env = [(false, eval b X.env)]) (hs : starEach [a, b] X.env = [(false, eval a X.env), (false, eval b X.env)]) :
    SI X S tg (.Call (.Name "range" p) [a, b] [] pos) (wiR2 wa wb) :=
  PI.imp' (pi_range2 hg hm (sa_cons ha (sa_cons hb sa_nil (hs2.trans rfl)) (by rw [hs, hs2])) hs hs2) fun σ H R ⟨ρ, M, Qm, r, h, k⟩ => by
    refine ⟨ρ, M, fun ds M' => ∃ d e, ds = [d, e] ∧ isI d fun i => isI e fun j => rgOk i ∧ rgOk j ∧ Qm (rngD i (j - i).toNat) (fun _ => True) M', r, ?_, fun vs H' ds M' q g m h1 => ?_⟩
    · unfold wiR2 at h
      have e : ∀ d : D, (fun (e : D) (M1 : MH) => isI d fun i => isI e fun j => rgOk i ∧ rgOk j ∧ Qm (rngD i (j - i).toNat) (fun _ => True) M1) = fun x M1 => ∃ d' e, [d, x] = [d', e] ∧ isI d' fun i => isI e fun j => rgOk i ∧ rgOk j ∧ Qm (rngD i (j - i).toNat) (fun _ => True) M1 := by
        intro d
        funext x M1
        apply propext
        exact ⟨fun z => ⟨d, x, rfl, z⟩, fun ⟨d', e', e, z⟩ => by cases e; exact z⟩
      have e2 : (fun (d : D) (M1 : MH) => wb ρ M1 fun (e : D) (M1 : MH) => isI d fun i => isI e fun j => rgOk i ∧ rgOk j ∧ Qm (rngD i (j - i).toNat) (fun _ => True) M1) = fun d M1 => wb ρ M1 fun x M1 => ∃ d' e, [d, x] = [d', e] ∧ isI d' fun i => isI e fun j => rgOk i ∧ rgOk j ∧ Qm (rngD i (j - i).toNat) (fun _ => True) M1 := by
        funext d M1
        rw [e d]
      show wa ρ M fun d M1 => wb ρ M1 fun x M1 => ∃ d' e, [d, x] = [d', e] ∧ _
      rw [← e2]; exact h
    · obtain ⟨d, e, rfl, h1⟩ := h1
      obtain ⟨i, rfl, h5⟩ := isI.of h1
      obtain ⟨j, rfl, h4, h2, h3⟩ := isI.of h5
      obtain ⟨v, u, rfl, q1, q2⟩ := two_args q
      obtain rfl : v = .int i := q1
      obtain rfl : u = .int j := q2
      exact ⟨i, j, rfl, ⟨h4.1, h4.2, h2.1, h2.2⟩, k _ _ _ _ _ g m it_rng h3⟩
/-- zip of two lists, of two tuples -/
def zipD : List D → List D → List D
  | x :: xs, y :: ys => .tup [x, y] :: zipD xs ys
  | _, _ => []
theorem zipD_get : ∀ {xs ys : List D} {i : Nat} {d : D}, (zipD xs ys)[i]? = some d → ∃ x y, d = .tup [x, y] ∧ xs[i]? = some x ∧ ys[i]? = some y
  | [], _, _, _, h => by simp [zipD] at h
  | _ :: _, [], _, _, h => by simp [zipD] at h
  | x :: xs, y :: ys, 0, d, h => by
    simp [zipD] at h
    exact ⟨x, y, h.symm, rfl, rfl⟩
  | x :: xs, y :: ys, i + 1, d, h => by
    simp only [zipD, List.getElem?_cons_succ] at h ⊢
    exact zipD_get h
theorem zipD_len : ∀ {xs ys : List D}, (zipD xs ys).length = min xs.length ys.length
  | [], _ => by simp [zipD]
  | _ :: _, [] => by simp [zipD]
  | x :: xs, y :: ys => by
    simp only [zipD, List.length_cons, zipD_len]
    omega
theorem pair_new {H : Hp} {M : MH} (m : RelM (kw X) H M) {d e : D} {v u : V} {T : Addr} (hT : H T = none) (q1 : Rp (kw X) H d v) (q2 : Rp (kw X) H e u) : Go H M (upd H T (.tup [v, u])) M ∧ RelM (kw X) (upd H T (.tup [v, u])) M ∧ Rp (kw X) (upd H T (.tup [v, u])) (.tup [d, e]) (.ref T) := by
  refine ⟨Go.newT hT, m.add hT, T, [v, u], rfl, .inl (.inl upd_same), ?_⟩
  have s := Stay.new (o := .tup [v, u]) hT
  unfold Rps
  exact ⟨v, [u], rfl, Rp.stay s _ _ q1, Rps.one (Rp.stay s _ _ q2)⟩
theorem it_zipL {Hb : Hp} {Mb : MH} {p q : Addr} {xs ys : List D} {c1 c2 : MH → Prop} (h1 : ∀ H M, Go Hb Mb H M → RelM (kw X) H M → c1 M → ∃ vs, SqL X.K H p vs ∧ Rps (kw X) H xs vs) (h2 : ∀ H M, Go Hb Mb H M → RelM (kw X) H M → c2 M → ∃ vs, SqL X.K H q vs ∧ Rps (kw X) H ys vs) :
    ItOk (kw X) Hb Mb (Itz X.K p q) (zipD xs ys) (fun M => c1 M ∧ c2 M) := by
  refine ⟨fun i H M d g m ck hd => ?_, fun i H M g m ck hi => ?_⟩
  · obtain ⟨x, y, rfl, hx, hy⟩ := zipD_get hd
    obtain ⟨vs, l1, r1⟩ := h1 H M g m ck.1
    obtain ⟨us, l2, r2⟩ := h2 H M g m ck.2
    obtain ⟨v, e1, q1⟩ := r1.get hx
    obtain ⟨u, e2, q2⟩ := r2.get hy
    refine ⟨⟨vs, us, v, u, l1, l2, e1, e2⟩, fun z H' y => ?_⟩
    obtain ⟨T, v', u', rfl, hT, rfl, k1, k2⟩ := y
    have z1 := k1 vs l1
    have z2 := k2 us l2
    rw [e1] at z1; rw [e2] at z2; cases z1; cases z2
    exact pair_new m hT q1 q2
  · obtain ⟨vs, l1, r1⟩ := h1 H M g m ck.1
    obtain ⟨us, l2, r2⟩ := h2 H M g m ck.2
    rw [zipD_len] at hi
    refine ⟨vs, us, l1, l2, ?_⟩
    rw [r1.length, r2.length]
    omega
theorem it_zipT {Hb : Hp} {Mb : MH} {p q : Addr} {xs ys : List D} {vs us : List V} (mb : RelM (kw X) Hb Mb) (l1 : SqT X.K Hb p vs) (r1 : Rps (kw X) Hb xs vs) (l2 : SqT X.K Hb q us) (r2 : Rps (kw X) Hb ys us) :
    ItOk (kw X) Hb Mb (RZ.ItzT X.K p q) (zipD xs ys) (fun _ => True) := by
  refine ⟨fun i H M d g m ck hd => ?_, fun i H M g m ck hi => ?_⟩
  · obtain ⟨x, y, rfl, hx, hy⟩ := zipD_get hd
    have s := g.stay mb
    obtain ⟨v, e1, q1⟩ := r1.get hx
    obtain ⟨u, e2, q2⟩ := r2.get hy
    refine ⟨⟨vs, us, v, u, s.sqT l1, s.sqT l2, e1, e2⟩, fun z H' y => ?_⟩
    obtain ⟨T, v', u', rfl, hT, rfl, k1, k2⟩ := y
    have z1 := k1 vs (s.sqT l1)
    have z2 := k2 us (s.sqT l2)
    rw [e1] at z1; rw [e2] at z2; cases z1; cases z2
    exact pair_new m hT (Rp.stay s _ _ q1) (Rp.stay s _ _ q2)
  · have s := g.stay mb
    rw [zipD_len] at hi
    refine ⟨vs, us, s.sqT l1, s.sqT l2, ?_⟩
    rw [r1.length, r2.length]
    omega
def chkO (d : D) (ds : List D) (M : MH) : Prop := match d with
  | .ref a => M a = some (.lst ds)
  | _ => True
def wiZ (a b : Wp) : Wi := fun ρ M Q => a ρ M fun d M1 => b ρ M1 fun e M2 => match d.nrm, e.nrm with
  | .tup xs, .tup ys => Q (zipD xs ys) (fun _ => True) M2
  | d, e => match lisO M2 d, lisO M2 e with
    | some xs, some ys => Q (zipD xs ys) (fun M => chkO d xs M ∧ chkO e ys M) M2
    | _, _ => False
theorem lis_chk {H Hb : Hp} {Mb M : MH} {d : D} {v : V} {ds : List D} (mb : RelM (kw X) Hb Mb) (g : Go Hb Mb H M) (m : RelM (kw X) H M) (q : Rp (kw X) Hb d v) (h : lisO Mb d = some ds) (ck : chkO d ds M) : ∃ p vs, v = .ref p ∧ SqL X.K H p vs ∧ Rps (kw X) H ds vs := by
  unfold lisO at h
  split at h
  · cases h
    obtain ⟨p, vs, e, hp, r⟩ := q
    exact ⟨p, vs, e, ((g.stay mb).sqF hp).sqL, Rps.stay (g.stay mb) _ _ r⟩
  · rename_i p
    obtain ⟨vs, h1, r⟩ := m.list (show M p = some (.lst ds) from ck)
    exact ⟨p, vs, q, SqL.of h1, r⟩
  · cases h
theorem si_zip {p tpos : Pos} {elts : List Expr} {kk : Nat} (hg : Gl X "zip") (hm : X.mg "zip" = none) (ha : SE X S a wa) (hb : SE X S b wb) (hs2 : starEach [b] X.env = [(false, eval b X.env)]) (hs : starEach [a, b] X.env = (false, eval a X.env) :: starEach [b] X.env) (hpl : (backTo pos (starEach [b] X.env)).any (·.1) = false) :
    SI X S (.Tuple elts kk tpos) (.Call (.Name "zip" p) [a, b] [] pos) (wiZ wa wb) := by
  refine PI.imp' (RZ.pi_zipA hg hm (sa_cons ha (sa_cons hb sa_nil (hs2.trans rfl)) hs) hs hpl) fun σ H R ⟨ρ, M, Qm, r, h, k⟩ => ?_
  let P : List D → MH → Prop := fun ds M2 => match ds with
    | [d, e] => (match d.nrm, e.nrm with
      | .tup xs, .tup ys => Qm (zipD xs ys) (fun _ => True) M2
      | d, e => match lisO M2 d, lisO M2 e with
        | some xs, some ys => Qm (zipD xs ys) (fun M => chkO d xs M ∧ chkO e ys M) M2
        | _, _ => False)
    | _ => False
  refine ⟨ρ, M, P, r, h, fun vs H' ds M' q g m h1 => ?_⟩
  show ∃ a b xs ys, _
  simp only [P] at h1
  split at h1
  · rename_i d e
    obtain ⟨v, u, rfl, q1, q2⟩ := two_args q
    replace q1 := q1.nrm
    replace q2 := q2.nrm
    generalize d.nrm = d at h1 q1
    generalize e.nrm = e at h1 q2
    split at h1
    · obtain ⟨p1, vs, rfl, l1, r1⟩ := q1
      obtain ⟨p2, us, rfl, l2, r2⟩ := q2
      exact ⟨p1, p2, vs, us, rfl, .inr ⟨l1, l2, k _ _ _ _ _ g m (it_zipT m l1 r1 l2 r2) h1⟩⟩
    · split at h1
      · rename_i xs ys hx hy
        obtain ⟨p1, vs, rfl, l1, r1⟩ := lis_of m q1 hx
        obtain ⟨p2, us, rfl, l2, r2⟩ := lis_of m q2 hy
        refine ⟨p1, p2, vs, us, rfl, .inl ⟨l1, l2, k _ _ _ _ _ g m (it_zipL (fun H3 M3 g3 m3 c => ?_) (fun H3 M3 g3 m3 c => ?_)) h1⟩⟩
        · obtain ⟨p3, vs3, e3, l3, r3⟩ := lis_chk m g3 m3 q1 hx c
          cases e3
          exact ⟨vs3, l3, r3⟩
        · obtain ⟨p3, vs3, e3, l3, r3⟩ := lis_chk m g3 m3 q2 hy c
          cases e3
          exact ⟨vs3, l3, r3⟩
      · exact h1.elim
  · exact h1.elim

/-! ### for -/
def goFor (g : Tgt) (chk : MH → Prop) (b : Ws) (E : ME) : List D → Ev → MH → Prop
  | [], ρ, M => chk M ∧ E.nx ρ M
  | d :: r, ρ, M => chk M ∧ match g d ρ with
    | some ρ' => b { E with nx := goFor g chk b E r, ct := goFor g chk b E r, bk := E.nx } ρ' M
    | none => False
def wFor (g : Tgt) (wi : Wi) (b : Ws) : Ws := fun E ρ M => wi ρ M fun ds chk M1 => goFor g chk b E ds ρ M1
theorem ss_for {is : List Nat} {tg iter : Expr} {body : List Stmt} {wi : Wi} {g : Tgt} {w : Ws} (hp : PassesOwn (model X.prog X.w) X.A X.env X.xe) (hc : X.calm = true) (hi : SI X S tg iter wi) (hg : SG X S tg is g) (hb : SSs X S body w)
    (hs : ∀ x, foldedSetIterable iter X.env x = pure x) : SS X S (.For tg iter body [] pos) (wFor g wi w) :=
  PS.imp' (ps_for hp hc hi hg hb hs) fun N σ H ⟨ρ, M, E, r, h, f⟩ => by
    refine ⟨ρ, M, _, r, h, fun ds chk H1 M1 J g1 m1 ok h1 => ?_⟩
    refine ⟨fun i n σ' H' => n = ds.length - i ∧ i ≤ ds.length ∧ ∃ ρ' M', Rl (kw X) S σ' H' ρ' M' ∧ Go H1 M1 H' M' ∧ goFor g chk w E (ds.drop i) ρ' M', ⟨ds.length, by simp, Nat.zero_le _, ρ, M1, r.go g1 m1, Go.refl _ _, by rw [List.drop_zero]; exact h1⟩, ?_⟩
    rintro i n σ' H' ⟨rfl, hi, ρ', M', r', g', w'⟩
    by_cases lt : i < ds.length
    · right
      have ed : ds.drop i = ds[i] :: ds.drop (i + 1) := List.drop_eq_getElem_cons lt
      rw [ed] at w'
      unfold goFor at w'
      obtain ⟨ck, w'⟩ := w'
      split at w'
      · rename_i ρ2 e2
        obtain ⟨go, yl⟩ := ok.go i H' M' ds[i] g' r'.m ck (List.getElem?_eq_getElem lt)
        refine ⟨go, fun σ3 H3 => ∃ m', m' < ds.length - i ∧ (m' = ds.length - (i + 1) ∧ i + 1 ≤ ds.length ∧ ∃ ρ' M', Rl (kw X) S σ3 H3 ρ' M' ∧ Go H1 M1 H3 M' ∧ goFor g chk w E (ds.drop (i + 1)) ρ' M'), fun σ3 H3 z => z, fun x H2 y => ?_⟩
        obtain ⟨g2, m2, q2⟩ := yl x H2 y
        refine ⟨ds[i], ρ', M', ρ2, q2, r'.go g2 m2, e2, fun σ4 r4 _ => ?_⟩
        have gg : Go H M H2 M' := (g1.trans g').trans g2
        have nxt : ∀ σ3 H3 ρ3 M3, Go H2 M' H3 M3 → Rl (kw X) S σ3 H3 ρ3 M3 → goFor g chk w E (ds.drop (i + 1)) ρ3 M3 → ∃ m', m' < ds.length - i ∧ (m' = ds.length - (i + 1) ∧ i + 1 ≤ ds.length ∧ ∃ ρ' M', Rl (kw X) S σ3 H3 ρ' M' ∧ Go H1 M1 H3 M' ∧ goFor g chk w E (ds.drop (i + 1)) ρ' M') :=
          fun σ3 H3 ρ3 M3 g3 r3 q3 => ⟨_, by omega, rfl, lt, ρ3, M3, r3, (g'.trans g2).trans g3, q3⟩
        exact ⟨ρ2, M', _, r4, w', ⟨nxt, f.rt.of gg, fun σ3 H3 ρ3 M3 g3 r3 q3 => f.nx σ3 H3 ρ3 M3 (gg.trans g3) r3 q3, nxt⟩⟩
      · exact w'.elim
    · left
      have ei : i = ds.length := by omega
      rw [ei, List.drop_length] at w'
      unfold goFor at w'
      exact ⟨ok.stop i H' M' g' r'.m w'.1 (by omega), f.nx σ' H' ρ' M' (g1.trans g') r' w'.2⟩
end
end
end Pz


set_option Elab.async false
set_option linter.all false
set_option autoImplicit false
set_option maxRecDepth 100000
set_option maxHeartbeats 1000000
/-! Comprehensions and calls of defs by data. -/
namespace Pz
open PySem PySem.Spec L2
open PyProof.Rows hiding St

def wipeD (ρ : Ev) : List Nat → Ev
  | [] => ρ
  | v :: vs => (wipeD ρ vs).set v none
theorem wipeD_length (ρ : Ev) : ∀ vs : List Nat, (wipeD ρ vs).length = ρ.length
  | [] => rfl
  | v :: vs => by unfold wipeD; rw [List.length_set, wipeD_length ρ vs]
theorem wipeD_some {ρ : Ev} {i : Nat} {x : D} : ∀ {vs : List Nat}, (wipeD ρ vs)[i]? = some (some x) → ρ[i]? = some (some x) ∧ i ∉ vs
  | [], h => ⟨h, by simp⟩
  | v :: vs, h => by
    unfold wipeD at h
    by_cases hi : v = i
    · subst hi
      by_cases hv : v < (wipeD ρ vs).length
      · rw [List.getElem?_set_self hv] at h; cases h
      · rw [List.getElem?_eq_none (by simpa using hv)] at h; cases h
    · rw [List.getElem?_set_ne hi] at h
      obtain ⟨h1, h2⟩ := wipeD_some h
      exact ⟨h1, fun z => by rcases List.mem_cons.mp z with z | z; exact hi z.symm; exact h2 z⟩
theorem wipe_ext {σ σ' : St} : ∀ {vs : List Nat}, σ'.length = σ.length → (∀ j, j ∉ vs → σ'[j]? = σ[j]?) → wipe σ' vs = wipe σ vs := by
  intro vs hl h
  have at_ : ∀ (τ : St) (vs : List Nat) (j : Nat), (wipe τ vs)[j]? = if j ∈ vs then (if j < τ.length then some none else none) else τ[j]? := by
    intro τ vs
    induction vs with
    | nil => intro j; simp [wipe]
    | cons v vs ih =>
      intro j
      unfold wipe
      by_cases hj : v = j
      · subst hj
        by_cases hv : v < τ.length
        · rw [List.getElem?_set_self (by rw [wipe_length]; exact hv), if_pos List.mem_cons_self, if_pos hv]
        · rw [List.getElem?_eq_none (by rw [List.length_set, wipe_length]; omega), if_pos List.mem_cons_self, if_neg hv]
      · rw [List.getElem?_set_ne hj, ih j]
        have : (j ∈ v :: vs) ↔ j ∈ vs := ⟨fun z => by rcases List.mem_cons.mp z with z | z; exact absurd z.symm hj; exact z, List.mem_cons_of_mem _⟩
        simp only [this]
  apply List.ext_getElem?
  intro j
  rw [at_, at_]
  by_cases hj : j ∈ vs
  · rw [if_pos hj, if_pos hj, hl]
  · rw [if_neg hj, if_neg hj]; exact h j hj
theorem Rl.wipe {K : KW} {S : Cl} {σ : St} {H : Hp} {ρ : Ev} {M : MH} (r : Rl K S σ H ρ M) (vs : List Nat) : Rl K S (L2.wipe σ vs) H (wipeD ρ vs) M :=
  ⟨by rw [wipe_length, wipeD_length]; exact r.len, fun i d h => by
    obtain ⟨h1, h2⟩ := wipeD_some h
    obtain ⟨v, e, q⟩ := r.e i d h1
    exact ⟨v, by rw [wipe_out h2]; exact e, q⟩, r.m, r.st⟩

/-! ### list comprehensions -/
def wTrue : Wp := fun _ M Q => Q (.bl true) M
def goLc (g : Tgt) (chk : MH → Prop) (c e : Wp) (ρ : Ev) (Q : List D → MH → Prop) : List D → List D → MH → Prop
  | [], acc, M => chk M ∧ Q acc M
  | d :: r, acc, M => chk M ∧ match g d ρ with
    | some ρ' => c ρ' M fun x M1 => isB x fun k => if k = true then e ρ' M1 fun y M2 => goLc g chk c e ρ Q r (acc ++ [y]) M2 else goLc g chk c e ρ Q r acc M1
    | none => False
def wLc (vs : List Nat) (g : Tgt) (wi : Wi) (c e : Wp) : Wp := fun ρ M Q => wi ρ M fun ds chk M1 => ds.length ≤ sizeLine ∧
  goLc g chk c e (wipeD ρ vs) (fun acc M' => ∀ p, M' p = none → Q (.ref p) (updM M' p (.lst acc))) ds [] M1
abbrev STs (X : Cx) (S : Cl) (ifs : List Expr) (w : Wp) : Prop := PTs X ifs (ltt (kw X) S w)
theorem PTs.imp' {X : Cx} {ifs : List Expr} {t t' : TT} (h : PTs X ifs t) (k : ∀ σ H Q, t' σ H Q → t σ H Q) : PTs X ifs t' := ⟨fun pins s σ H Q I q => h.run pins s σ H Q I (k σ H Q q)⟩
section
variable {X : Cx} {S : Cl}
theorem sts_nil : STs X S [] wTrue := PTs.imp' pts_nil fun σ H Q ⟨ρ, M, Qm, r, ⟨b, e, h⟩, k⟩ => by
  cases e
  exact k true H M (Go.refl H M) r.m h
theorem sts_one {c : Expr} {w : Wp} (h : ST X S c w) : STs X S [c] w := pts_one h
/-- the list that is being made stands aside -/
theorem RelM.hid {K : KW} {H : Hp} {M : MH} (m : RelM K H M) {p : Addr} {o : HO} (hp : M p = none) (nf : ∀ u, H p = some u → ¬ Fix u) : RelM K (L2.upd H p o) M := fun a u e => by
  have ha : a ≠ p := by rintro rfl; rw [hp] at e; cases e
  exact (m a u e).stay (Stay.upd nf) (upd_ne ha)
theorem lc_data {σ : St} {H : Hp} {Q : VK} {wi : Wi} {g : Tgt} {c e : Wp} {vs is : List Nat} (hsub : ∀ i ∈ is, i ∈ vs) (h : lt (kw X) S (wLc vs g wi c e) σ H Q) : tLc (li (kw X) S wi) (ltg (kw X) S is g) (ltt (kw X) S c) (lt (kw X) S e) vs σ H Q := by
  obtain ⟨ρ, M, Qm, r, h, k⟩ := h
  refine ⟨ρ, M, _, r, h, fun ds chk H1 M1 J g1 m1 ok h1 => ?_⟩
  obtain ⟨hz, h1⟩ := h1
  intro L hL
  have r1 := (r.go g1 m1).wipe vs
  let Fq : List D → MH → Prop := fun acc M' => ∀ p, M' p = none → Qm (.ref p) (updM M' p (.lst acc))
  have h1 : goLc g chk c e (wipeD ρ vs) Fq ds [] M1 := h1
  refine ⟨fun i n H' => n = ds.length - i ∧ i ≤ ds.length ∧ ∃ accD accV M', H' L = some (.lst accV) ∧ Rps (kw X) H' accD accV ∧ accD.length ≤ i ∧ M' L = none ∧ RelM (kw X) H' M' ∧ Go H1 M1 H' M' ∧
    (∀ (i : Nat) (d : D), (wipeD ρ vs)[i]? = some (some d) → ∃ v, (wipe σ vs)[i]? = some (some v) ∧ Rp (kw X) H' d v) ∧ goLc g chk c e (wipeD ρ vs) Fq (ds.drop i) accD M', ⟨ds.length, by simp, Nat.zero_le _, ?_⟩, ?_⟩
  · refine ⟨[], [], M1, upd_same, by unfold Rps; rfl, Nat.le_refl _, m1.free hL, m1.add hL, Go.newT hL, fun i d hd => ?_, by rw [List.drop_zero]; exact h1⟩
    obtain ⟨v, e1, q⟩ := r1.e i d hd
    exact ⟨v, e1, Rp.stay (Stay.new hL) _ _ q⟩
  rintro i n H' ⟨rfl, hi, accD, accV, M', hD, ra, hl, hM, m', g', re, w'⟩
  have rl : Rl (kw X) S (wipe σ vs) H' (wipeD ρ vs) M' := ⟨r1.len, re, m', S.up r1.st g'⟩
  by_cases lt' : i < ds.length
  · right
    have ed : ds.drop i = ds[i] :: ds.drop (i + 1) := List.drop_eq_getElem_cons lt'
    rw [ed] at w'
    unfold goLc at w'
    obtain ⟨ck, w'⟩ := w'
    split at w'
    · rename_i ρ2 e2
      obtain ⟨go, yl⟩ := ok.go i H' M' ds[i] g' m' ck (List.getElem?_eq_getElem lt')
      let N : Hp → Prop := fun H' => ∃ accD accV M', H' L = some (.lst accV) ∧ Rps (kw X) H' accD accV ∧ accD.length ≤ i + 1 ∧ M' L = none ∧ RelM (kw X) H' M' ∧ Go H1 M1 H' M' ∧
        (∀ (i : Nat) (d : D), (wipeD ρ vs)[i]? = some (some d) → ∃ v, (wipe σ vs)[i]? = some (some v) ∧ Rp (kw X) H' d v) ∧ goLc g chk c e (wipeD ρ vs) Fq (ds.drop (i + 1)) accD M'
      refine ⟨go, N, fun H3 z => ⟨ds.length - (i + 1), by omega, rfl, lt', z⟩, fun x H2 y => ?_⟩
      obtain ⟨g2, m2, q2⟩ := yl x H2 y
      refine ⟨ds[i], wipeD ρ vs, M', ρ2, q2, rl.go g2 m2, e2, fun σ4 r4 o4 => ⟨(wipe_ext (σ := L2.wipe σ vs) (σ' := σ4) o4.1 fun j hj => o4.2 j fun z => hj (hsub j z)).trans (wipe_ext (σ := σ) (σ' := L2.wipe σ vs) (wipe_length σ vs) fun j hj => wipe_out hj), ?_⟩⟩
      · refine tst r4 w' fun b H3 M3 g3 m3 q3 => ?_
        have gg := g2.trans g3
        obtain ⟨l3, n3⟩ := gg L _ hD hM
        have s3 := gg.stay m'
        cases b with
        | false =>
          rw [if_neg Bool.false_ne_true] at q3 ⊢
          exact ⟨accD, accV, M3, l3, Rps.stay s3 _ _ ra, by omega, n3, m3, g'.trans gg, fun j d hd => let ⟨v, e1, q⟩ := re j d hd; ⟨v, e1, Rp.stay s3 _ _ q⟩, q3⟩
        | true =>
          rw [if_pos rfl] at q3 ⊢
          refine ⟨ρ2, M3, _, r4.go g3 m3, q3, ⟨fun v H4 d M4 q4 g4 m4 h4 => ?_⟩⟩
          have g5 := gg.trans g4
          obtain ⟨l4, n4⟩ := g5 L _ hD hM
          have s4 := g5.stay m'
          have nf : ∀ u, H4 L = some u → ¬ Fix u := fun u hu => by rw [l4] at hu; cases hu; exact fun z => z
          have s5 : Stay H4 (upd H4 L (.lst (accV ++ [v]))) := Stay.upd nf
          refine ⟨accV, l4, ?_, accD ++ [d], accV ++ [v], M4, upd_same, Rps.append (Rps.stay s5 _ _ (Rps.stay s4 _ _ ra)) (Rps.one (Rp.stay s5 _ _ q4)), ?_, n4, m4.hid n4 nf, ?_, fun j d hd => let ⟨v, e1, q⟩ := re j d hd; ⟨v, e1, Rp.stay s5 _ _ (Rp.stay s4 _ _ q)⟩, h4⟩
          · rw [ra.length]; omega
          · rw [List.length_append, List.length_singleton]; omega
          · intro a u ha na
            obtain ⟨z1, z2⟩ := (g'.trans g5) a u ha na
            exact ⟨by rw [upd_ne (ne_of_none ha hL)]; exact z1, z2⟩
    · exact w'.elim
  · left
    have ei : i = ds.length := by omega
    rw [ei, List.drop_length] at w'
    unfold goLc at w'
    refine ⟨ok.stop i H' M' g' m' w'.1 (by omega), ?_⟩
    refine k.run _ _ (.ref L) _ rfl ?_ ?_ (w'.2 L hM)
    · intro a u ha na
      obtain ⟨z1, z2⟩ := g1 a u ha na
      obtain ⟨z3, z4⟩ := g' a u z1 z2
      exact ⟨z3, by rw [updM_ne (ne_of_none z1 hL)]; exact z4⟩
    · intro a u ha
      by_cases hb : a = L
      · subst hb
        rw [updM_same] at ha; cases ha
        exact ⟨accV, hD, ra⟩
      · rw [updM_ne hb] at ha
        exact m' a u ha
theorem se_lc {elt tg iter : Expr} {ifs : List Expr} {scope : Scope} {own : List (Str × Nat)} {pos : Pos} {wi : Wi} {g : Tgt} {c e : Wp} {is : List Nat} (hc : X.calm = true) (hN : X.N.Nodup) (hi : SI X S tg iter wi) (ok : BlkOk X.N X.env.scope scope own) (hsub : ∀ i ∈ is, i ∈ own.map (·.2))
    (hg : ∀ (s : Shared) (H : Hp) (C : Addr) (cl : List (Str × Addr)) (fp : List Addr), SG (X.blk s H scope (compEnvC scope cl C X.env) fp) S tg is g) (ht : ∀ (s : Shared) (H : Hp) (C : Addr) (cl : List (Str × Addr)) (fp : List Addr), STs (X.blk s H scope (compEnvC scope cl C X.env) fp) S ifs c)
    (he : ∀ (s : Shared) (H : Hp) (C : Addr) (cl : List (Str × Addr)) (fp : List Addr), SE (X.blk s H scope (compEnvC scope cl C X.env) fp) S elt e) (hs : ∀ x, foldedSetIterable iter X.env x = pure x) :
    SE X S (.ListComp elt [⟨tg, iter, ifs, 0⟩] scope pos) (wLc (own.map (·.2)) g wi c e) :=
  PE.imp' (pe_lc hc hN hi ok hg ht he hs) fun σ H Q h => lc_data hsub h
theorem ss_setLc {i : Nat} {y : Str} {py : Pos} {elt tg iter : Expr} {ifs : List Expr} {scope : Scope} {own : List (Str × Nat)} {pos spos : Pos} {wi : Wi} {g : Tgt} {c e : Wp} {is : List Nat} (hc : X.calm = true) (hN : X.N.Nodup) (hy : X.N[i]? = some y) (hyl : X.env.scope.names.lookup y = some .local)
    (hsw : swapsWith (.ListComp elt [⟨tg, iter, ifs, 0⟩] scope pos) (some (.Name y py)) spos.line X.env = pure true) (hi : SI X S tg iter wi) (ok : BlkOk X.N X.env.scope scope own) (hsub : ∀ i ∈ is, i ∈ own.map (·.2))
    (hg : ∀ (s : Shared) (H : Hp) (C : Addr) (cl : List (Str × Addr)) (fp : List Addr), SG (X.blk s H scope (compEnvC scope cl C X.env) fp) S tg is g) (ht : ∀ (s : Shared) (H : Hp) (C : Addr) (cl : List (Str × Addr)) (fp : List Addr), STs (X.blk s H scope (compEnvC scope cl C X.env) fp) S ifs c)
    (he : ∀ (s : Shared) (H : Hp) (C : Addr) (cl : List (Str × Addr)) (fp : List Addr), SE (X.blk s H scope (compEnvC scope cl C X.env) fp) S elt e) (hs : ∀ x, foldedSetIterable iter X.env x = pure x) :
    SS X S (.Assign [.Name y py] (.ListComp elt [⟨tg, iter, ifs, 0⟩] scope pos) spos) (wSet i (wLc (own.map (·.2)) g wi c e)) :=
  PS.imp' (ps_setLc hc hN hy hyl hsw hi ok hg ht he hs) fun N σ H ⟨ρ, M, E, r, h, f⟩ =>
    lc_data hsub ⟨ρ, M, _, r, h, ⟨fun v H1 d M1 q s m h1 => f.nx _ H1 _ M1 s ((r.go s m).set q i) h1⟩⟩
end
end Pz


set_option Elab.async false
set_option linter.all false
set_option autoImplicit false
set_option maxRecDepth 100000
set_option maxHeartbeats 1000000
/-! Defs: what each is worth by data, its calls, its body. -/
namespace Pz
open PySem PySem.Spec L2
open PyProof.Rows hiding St

/-- an exception by data: its class, its own fields -/
structure Exc where
  cls : Value
  fs : Option (List (Str × D))
abbrev XPt := Exc → MH → Prop
abbrev Spec := List D → MH → Pt → XPt → Prop
def RpX (K : KW) (H : Hp) (cls : Value) (dd : Option Addr) (ex : Exc) : Prop := cls = ex.cls ∧ match ex.fs, dd with
  | none, none => True
  | some fs, some d => ∃ vfs, H d = some (.xd vfs) ∧ vfs.map (·.1) = fs.map (·.1) ∧ Rps K H (fs.map (·.2)) (vfs.map (·.2))
  | _, _ => False
structure WnX (K : KW) (H : Hp) (M : MH) (R : XPt) (E : XK) : Prop where
  run : ∀ cls dd H' ex M', RpX K H' cls dd ex → Go H M H' M' → RelM K H' M' → R ex M' → E cls dd H'
theorem WnX.of {K : KW} {H H' : Hp} {M M' : MH} {R : XPt} {E : XK} (k : WnX K H M R E) (s : Go H M H' M') : WnX K H' M' R E := ⟨fun c dd H2 ex M2 r s2 m q => k.run c dd H2 ex M2 r (s.trans s2) m q⟩
def spOf (K : KW) (sp : Spec) : Sp := fun vs H Q E => ∃ ds M Qm R, Rps K H ds vs ∧ RelM K H M ∧ sp ds M Qm R ∧ Wn K H M Qm Q ∧ WnX K H M R E

/-- a def keeps its promise where nothing is being shown -/
structure FnG (P : Program) (w : World) (K : PySem.W.Frag) (mg : Str → Option Value) (base : Heap) (k : Nat) (f : Addr) (fd : FuncData) (ps : List Str) (sp : Sp) : Prop where
  len : ∀ vs H Q E, sp vs H Q E → vs.length = ps.length
  run : ∀ (A : Around) (outer : List Env) (s : Shared) (H : Hp) (args : Args) (us : List Value) (vs : List V) (Q : VK) (E : XK), Room k A → A.guards = some [] → Env0 P w K mg base A outer s H → BindsTo s fd args (ps.zip us) → Vals vs us → sp vs H Q E →
    codeAny (model P w) A (.call (.ref f) args) (CR (L2.CX P w) outer P w H s Q E) s

section
variable {X : Cx} {k : Nat} {f C : Addr} {fd : FuncData} {ps : List Str} {sp : Sp} {E : XK} {x : Str} {p pos : Pos} {e : Expr} {es : List Expr} {t : TA}
theorem runG {pins : List (Addr × Obj)} {σ : St} {H : Hp} {s : Shared} {Q : VK} {us : List Value} {vs : List V} (F : FnG X.prog X.w X.K X.mg X.base k f fd ps sp) (hr : Room k X.A) (hgd : X.A.guards = some []) (hb : Binds X.K fd ps [])
    (hx : Passes (L2.CX X.prog X.w) X E) (I : Inv X pins σ H s) (r : Vals vs us) (h : sp vs H Q E) : wpAny (model X.prog X.w) X.A (call (.ref f) us) (EP X pins σ Q) X.xe s := by
  have n : us.length = ps.length := r.length.symm.trans (F.len vs H Q E h)
  have bnd := hb s us I.kIn (by rw [List.append_nil]; exact n)
  rw [List.append_nil] at bnd
  apply wpAny_call
  apply codeAny_mono (F.run X.A X.stack s H _ us vs Q E hr hgd I.env0 bnd r h)
  intro res s' q
  match res, q with
  | .ok (.ret _), q => exact I.after q
  | .error _, q => exact hx _ _ _ _ _ _ I q
theorem peG_call (F : FnG X.prog X.w X.K X.mg X.base k f fd ps sp) (hr : Room k X.A) (hgd : X.A.guards = some []) (hg : Gl X x) (hm : X.mg x = some (.ref f)) (hk : PySem.W.keepIn X.K (.ref f) = true) (hb : Binds X.K fd ps []) (hx : Passes (L2.CX X.prog X.w) X E)
    (ha : PA X (e :: es) t) (hdb : (x == ("__debug__" : Str)) = false) (he : starEach (e :: es) X.env = (false, eval e X.env) :: starEach es X.env) (hpl : (backTo pos (starEach es X.env)).any (·.1) = false) :
    PE X (.Call (.Name x p) (e :: es) [] pos) (fun σ H Q => t σ H fun vs H1 => sp vs H1 Q E) := by
  constructor
  intro pins s σ H Q I h
  apply wpAny_Call_Name_kw
  apply ld_glob I hg hm _ hdb
  apply PySem.W.callWith_K (h₀ := X.base) I.ok.mod.kin hk _ he hpl
  apply thn (ha.run pos pins s σ H _ I h)
  rintro us s1 ⟨vs, H1, I1, r, q⟩
  exact ⟨I1.kIn, runG F hr hgd hb hx I1 r q⟩
theorem peG_call0 (F : FnG X.prog X.w X.K X.mg X.base k f fd ps sp) (hr : Room k X.A) (hgd : X.A.guards = some []) (hg : Gl X x) (hm : X.mg x = some (.ref f)) (hk : PySem.W.keepIn X.K (.ref f) = true) (hb : Binds X.K fd ps []) (hx : Passes (L2.CX X.prog X.w) X E)
    (hdb : (x == ("__debug__" : Str)) = false) : PE X (.Call (.Name x p) [] [] pos) (fun σ H Q => sp [] H Q E) := by
  constructor
  intro pins s σ H Q I h
  apply wpAny_Call_Name_kw
  apply ld_glob I hg hm _ hdb
  exact PySem.W.callWith_K0 I.kIn hk (runG (us := []) F hr hgd hb hx I .nil h)
end

/-- what is wanted of what is raised, from data -/
def EofR (K : KW) (S : Cl) (R : XPt) : XK := fun cls dd H' => ∃ ex M', RpX K H' cls dd ex ∧ RelM K H' M' ∧ S.p H' M' ∧ R ex M'
def wCallF (sp : Spec) (R : XPt) (a : Wps) : Wp := fun ρ M Q => a ρ M fun ds M1 => sp ds M1 Q R
section
variable {X : Cx} {S : Cl} {k : Nat} {f C : Addr} {fd : FuncData} {ps : List Str} {sp : Spec} {R : XPt} {x : Str} {p pos : Pos} {e : Expr} {es : List Expr} {ws : Wps}
theorem se_call (F : FnG X.prog X.w X.K X.mg X.base k f fd ps (spOf (kw X) sp)) (hr : Room k X.A) (hgd : X.A.guards = some []) (hg : Gl X x) (hm : X.mg x = some (.ref f)) (hk : PySem.W.keepIn X.K (.ref f) = true) (hb : Binds X.K fd ps [])
    (hx : Passes (L2.CX X.prog X.w) X (EofR (kw X) S R)) (ha : SA X S (e :: es) ws) (hdb : (x == ("__debug__" : Str)) = false) (he : starEach (e :: es) X.env = (false, eval e X.env) :: starEach es X.env) (hpl : (backTo pos (starEach es X.env)).any (·.1) = false) :
    SE X S (.Call (.Name x p) (e :: es) [] pos) (wCallF sp R ws) :=
  PE.imp' (peG_call F hr hgd hg hm hk hb hx ha hdb he hpl) fun σ H Q ⟨ρ, M, Qm, r, h, kk⟩ =>
    ⟨ρ, M, _, r, h, fun vs H1 ds M1 q s m h1 => ⟨ds, M1, Qm, R, q, m, h1, kk.of s, ⟨fun c dd H' ex M' rx g m' q' => ⟨ex, M', rx, m', S.up (S.up r.st s) g, q'⟩⟩⟩⟩
theorem se_call0 (F : FnG X.prog X.w X.K X.mg X.base k f fd ps (spOf (kw X) sp)) (hr : Room k X.A) (hgd : X.A.guards = some []) (hg : Gl X x) (hm : X.mg x = some (.ref f)) (hk : PySem.W.keepIn X.K (.ref f) = true) (hb : Binds X.K fd ps [])
    (hx : Passes (L2.CX X.prog X.w) X (EofR (kw X) S R)) (hdb : (x == ("__debug__" : Str)) = false) : SE X S (.Call (.Name x p) [] [] pos) (wCallF sp R wNil) :=
  PE.imp' (peG_call0 F hr hgd hg hm hk hb hx hdb) fun σ H Q ⟨ρ, M, Qm, r, h, kk⟩ =>
    ⟨[], M, Qm, R, rfl, r.m, h, kk, ⟨fun c dd H' ex M' rx g m' q' => ⟨ex, M', rx, m', S.up r.st g, q'⟩⟩⟩
end

/-! ### a def by its body -/
def startD (N : List Str) (ds : List D) : Ev := ds.map some ++ List.replicate (N.length - ds.length) none
/-- from some heap on -/
def clOf (H0 : Hp) (M0 : MH) : Cl := ⟨fun H M => Go H0 M0 H M, fun a b => a.trans b⟩
theorem Rl.start {K : KW} {N : List Str} {H : Hp} {M : MH} {ds : List D} {vs : List V} (r : Rps K H ds vs) (m : RelM K H M) (hl : ds.length ≤ N.length) : Rl K (clOf H M) (L2.start N vs) H (startD N ds) M := by
  refine ⟨?_, fun i d h => ?_, m, Go.refl H M⟩
  · unfold L2.start startD
    simp only [List.length_append, List.length_map, List.length_replicate, r.length]
  · unfold startD at h
    have hi : i < ds.length := by
      rcases Nat.lt_or_ge i ds.length with q | q
      · exact q
      · rw [List.getElem?_append_right (by simpa using q), List.getElem?_replicate] at h
        split at h <;> cases h
    rw [List.getElem?_append_left (by simpa using hi), List.getElem?_map] at h
    obtain ⟨d', e1, e2⟩ := Option.map_eq_some_iff.mp h
    cases e2
    obtain ⟨v, h1, q⟩ := r.get e1
    refine ⟨v, ?_, q⟩
    unfold L2.start
    rw [List.getElem?_append_left (by rw [List.length_map, r.length]; exact hi), List.getElem?_map, h1]
    rfl
section
variable {P : Program} {w : World} {K : PySem.W.Frag} {mg : Str → Option Value} {base : Heap}
/-- the rule for a def: the body's condition by data, from what the def's promise says -/
theorem Fun.okG {x qual : Str} {st : Stmt} {f : Addr} {fd : FuncData} {N ps : List Str} {k : Nat} {sp : Spec} (F : Fun K x qual st f fd) (Sc : FnScope N ps (defScope st)) (len : ∀ ds M Q R, sp ds M Q R → ds.length = ps.length)
    (hbody : ∀ (cdv : Value) (A : Around) (outer : List Env) (s : Shared) (H : Hp) (M : MH) (E : XK) (ds : List D) (Q : Pt) (R : XPt), Room k (A.deeper (envOfC qual (defScope st) s.heap.objs.size f cdv)) → A.guards = some [] → WnX ⟨K, P, w⟩ H M R E → sp ds M Q R →
      ∃ W, SSs (cxOf (L2.CX P w) P w K mg base N qual (defScope st) f cdv A outer s H E) (clOf H M) (defBody st) W ∧ W { nx := fun _ M' => Q .non M', rt := Q } (startD N ds) M) :
    FnG P w K mg base (k + 1) f fd ps (spOf ⟨K, P, w⟩ sp) := by
  obtain ⟨oc, od, kV, doc, pm, an, cdv, ct, osl, rfl, lk, hcd⟩ := F.ex
  refine ⟨fun vs H Q E ⟨ds, M, Qm, R, r, _, h, _⟩ => r.length.trans (len ds M Qm R h), ?_⟩
  intro A outer s H args us vs Q E hr hgd e0 hb r ⟨ds, M, Qm, R, rd, m, h, kq, kx⟩
  have hl : vs.length = ps.length := rd.length.trans (len ds M Qm R h)
  have hpn : ps.length ≤ N.length := by rw [← Sc.pre, List.length_take]; exact Nat.min_le_right _ _
  have old : ∀ b o, base.get? b = some o → s.heap.get? b = some o := fun b o e => (e0.bs b o e).1
  have inK := e0.mod.kin.keeps old
  apply codeAny_call_function hr.depth (inK _ _ lk) rfl Sc.co Sc.gen rfl (PySem.W.codeRec_of inK hcd) (hb _ _ _ _ _)
  apply wpAny_newFunctionEnv_cells Sc.kind
  · rintro ⟨n, v⟩ hy
    rcases Sc.par n (List.of_mem_zip hy).1 with q | q
    · exact .inl q
    · exact .inr ⟨q, PySem.W.cellsFrom_some _ _ _ (.inl q)⟩
  intro env he s1 ic
  subst he
  refine ⟨(e0.mod.nolimit.keeps old).keeps ic.toInCall.keep, codeAny_func ?_⟩
  obtain ⟨W, hW, hq⟩ := hbody cdv A outer s H M E ds Qm R (hr.deeper _) hgd kx h
  have I := inv_start (CX := L2.CX P w) (qual := qual) (E := E) Sc hr.hd e0 hl r ic
  have run := hW.run [] s1 (L2.start N vs) H { nx := fun _ H' => Q .non H', rt := Q } I ⟨startD N ds, M, _, Rl.start rd m (by rw [len ds M Qm R h]; exact hpn), hq,
    ⟨fun σ' H' ρ' M' g r' q => kq.run _ _ .non M' rfl g r'.m q, kq, fun _ _ _ _ _ _ z => z.elim, fun _ _ _ _ _ _ z => z.elim⟩⟩
  refine wpAny_mono run (fun fl s' q => ?_) fun _ _ q => q
  match fl, q with
  | .ret u, ⟨v, σ', H', J, rv, q⟩ => exact ⟨v, H', J.os, J.bare, J.base, J.hok, rv, q⟩
  | .next, ⟨σ', H', J, q⟩ => exact ⟨.non, H', J.os, J.bare, J.base, J.hok, rfl, q⟩
  | .brk, ⟨_, _, _, q⟩ => exact q.elim
  | .cont, ⟨_, _, _, q⟩ => exact q.elim
end
end Pz


set_option Elab.async false
set_option linter.all false
set_option autoImplicit false
set_option maxRecDepth 100000
set_option maxHeartbeats 1000000
/-! tuple(..), repr, dicts whose keys are nested tuples. -/
namespace Pz
open PySem PySem.Spec L2
open PyProof.Rows hiding St

/-! ### tuple(x): with its own object known, where one wants it -/
def bTup (ds : List D) (M : MH) (Q : Pt) : Prop := match ds with
  | [d] => (match seqO M d with
    | some es => Q (.tup es) M
    | none => False) ∨ (match lisO M d with
    | some es => Q (.ptup es) M
    | none => False)
  | _ => False
section
variable {X : Cx}
theorem cd_tup : CD X (.type "tuple") bTup := by
  intro pins s σ H xs us Q I rv ⟨ds, M, Qm, r, m, h, k⟩
  unfold bTup at h
  split at h
  · rename_i d
    rcases h with h | h
    · exact cd_tuple pins s σ H xs us Q I rv ⟨[d], M, Qm, r, m, h, k⟩
    · split at h
      · rename_i es hd
        obtain ⟨v, rfl, q⟩ := one_arg r
        obtain ⟨p, vs, rfl, hp, rr⟩ := lis_of m q hd
        cases rv with
        | cons r1 r2 =>
          cases r2
          cases r1
          obtain ⟨its, r', pl, hz⟩ := I.list hp
          have hlen := r'.length
          apply call_tuple_list pl.isList _ (by simp only [List.size_toArray] <;> omega)
          intro h' kp
          have I1 : Inv X pins σ H { s with heap := h' } := I.kept (t' := s.toks) kp
          have fr : H h'.objs.size = none := I1.hok.fresh (Nat.le_refl _)
          let o : Obj := { cls := .type "tuple", data := .seq its.toArray }
          have I2 : Inv X pins σ (upd H h'.objs.size (.frz o (.tup vs))) { s with heap := h'.push o } :=
            I1.laid (t' := s.toks) (fun b o e => Heap.get?_push_of_some _ e) (Nat.le_refl _) (show ObjOk X.prog X.w _ _ _ (.frz o (.tup vs)) from ⟨Heap.get?_push_size _ rfl, hz, its, r', IsTup.new _ _⟩)
          refine ⟨.ref h'.objs.size, _, I2, rfl, ?_⟩
          exact k.run _ _ (.ptup es) M ⟨_, vs, o, rfl, ⟨upd_same, rfl, rfl⟩, Rps.stay (Stay.new fr) _ _ rr⟩ (Go.newT fr) (m.add fr) h
      · exact h.elim
  · exact h.elim

/-! ### repr -/
def bRepr (ds : List D) (M : MH) (Q : Pt) : Prop := match ds with
  | [d] => match pyD M pyN d with
    | some p => (p.showable = true ∧ p.hasDict = false ∧ p.depth ≤ 60 ∧ p.shown.length ≤ sizeLine) ∧ (match p with
      | .dict _ => False
      | .int i => i.natAbs.log2 < 1920
      | _ => True) ∧ Q (.str p.shown) M
    | none => False
  | _ => False
theorem cd_repr (hu : X.A.units + 64 < cLine) (hg : X.A.guards = some []) : CD X (.builtin "repr") bRepr := by
  intro pins s σ H xs us Q I rv ⟨ds, M, Qm, r, m, h, k⟩
  unfold bRepr at h
  split at h
  · rename_i d
    split at h
    · rename_i p hp
      obtain ⟨⟨h1, h2, h3, h4⟩, h5, h⟩ := h
      obtain ⟨v, rfl, q⟩ := one_arg r
      have dp := dp_of m _ _ _ _ q hp
      cases rv with
      | cons r1 r2 =>
        cases r2
        rename_i u
        obtain ⟨as, rd⟩ := Dp.reads I p v u dp r1
        have fin : ∀ h' u' tk, (∀ b o, s.heap.get? b = some o → h'.get? b = some o) → EP X pins σ Q (.str p.shown u') { s with heap := h', toks := tk } := fun h' u' tk kp =>
          ⟨.str p.shown, H, I.kept (t' := tk) kp, ⟨_, rfl⟩, k.go m (d := .str p.shown) rfl h⟩
        cases dp with
        | lst a b =>
          cases r1
          exact repr_of_reads' (h₀ := s.heap) rd h1 (fun z => by rw [h2] at z; cases z) hg (by omega) (fun _ _ e => e) fin h4
        | tup a b =>
          cases r1
          exact repr_of_reads' (h₀ := s.heap) rd h1 (fun z => by rw [h2] at z; cases z) hg (by omega) (fun _ _ e => e) fin h4
        | int i =>
          obtain ⟨t, rfl⟩ := r1
          exact PySem.P.repr_of_int h5 ⟨.str _, H, I.tok _, ⟨_, rfl⟩, k.go m (d := .str (toString i)) rfl h⟩
        | non =>
          cases r1
          exact PySem.P.repr_of_none ⟨.str _, H, I.tok _, ⟨_, rfl⟩, k.go m (d := .str _) rfl (by rw [PyData.shown_none] at h; exact h)⟩
        | bl b =>
          cases r1
          exact PySem.P.repr_of_bool ⟨.str _, H, I.tok _, ⟨_, rfl⟩, k.go m (d := .str _) rfl (by unfold PyData.shown at h; exact h)⟩
        | str x =>
          obtain ⟨t, rfl⟩ := r1
          rw [PyData.shown_str] at h h4
          exact PySem.P.repr_of_str ⟨.str _, H, I.tok _, ⟨_, rfl⟩, k.go m (d := .str _) rfl h⟩ h4
    · exact h.elim
  · exact h.elim

/-! ### dicts with nested keys -/
def kEq (a b : D) : Bool := decide (nk a = nk b)
def lookD (kvs : List (D × D)) (k : D) : Option D := (kvs.find? fun p => kEq p.1 k).map (·.2)
def putD (kvs : List (D × D)) (k v : D) : List (D × D) := if (lookD kvs k).isSome then kvs.map (fun p => if kEq p.1 k then (p.1, v) else p) else kvs ++ [(k, v)]
def mergeD (kvs more : List (D × D)) : List (D × D) := more.foldl (fun acc p => putD acc p.1 p.2) kvs
theorem kEq_iff {a b : D} {m n : NestedKey} (ha : nk a = some m) (hb : nk b = some n) : kEq a b = decide (m = n) := by
  unfold kEq
  rw [ha, hb]
  by_cases e : m = n
  · subst e; simp
  · rw [decide_eq_false e, decide_eq_false (fun z => e (Option.some.inj z))]
mutual
theorem nested_is {pins : List (Addr × Obj)} {σ : St} {H : Hp} {s : Shared} (I : Inv X pins σ H s) : ∀ (d : D) (v : V) (u : Value) (n : NestedKey), Rp (kw X) H d v → RelV v u → nk d = some n → NestedIs s.heap n u
  | .non, v, u, n, r, rv, e => by
    rw [show v = .non from r] at rv
    cases rv; cases (show some NestedKey.none = some n from e); exact .none
  | .int i, v, u, n, r, rv, e => by
    rw [show v = .int i from r] at rv
    obtain ⟨t, rfl⟩ := rv
    cases (show some (NestedKey.num i) = some n from e); exact .int i t
  | .str i, v, u, n, r, rv, e => by
    rw [show v = .str i from r] at rv
    obtain ⟨t, rfl⟩ := rv
    cases (show some (NestedKey.text i) = some n from e); exact .text i t
  | .tup ds, v, u, n, r, rv, e => by
    obtain ⟨ns, e1, rfl⟩ := Option.map_eq_some_iff.mp (show (nks ds).map NestedKey.tup = some n from e)
    obtain ⟨a, vs, rfl, hq, rr⟩ := r
    cases rv
    obtain ⟨its, r', ⟨o, h1, h2, k, h3⟩, _⟩ := I.tuple hq
    exact .tup h1 h2 h3 (nested_all I ds vs _ ns rr r' e1)
  | .ptup ds, v, u, n, r, rv, e => by
    obtain ⟨ns, e1, rfl⟩ := Option.map_eq_some_iff.mp (show (nks ds).map NestedKey.tup = some n from e)
    obtain ⟨a, vs, oo, rfl, hq, rr⟩ := r
    cases rv
    obtain ⟨its, r', ⟨o, h1, h2, k, h3⟩, _⟩ := I.tuple (a := a) (xs := vs) (.inl (.inr ⟨oo, hq.1⟩))
    exact .tup h1 h2 h3 (nested_all I ds vs _ ns rr r' e1)
  | .bl _, _, _, _, _, _, e => by cases e
  | .ref _, _, _, _, _, _, e => by cases e
  | .ty _, _, _, _, _, _, e => by cases e
  | .fz _, _, _, _, _, _, e => by cases e
theorem nested_all {pins : List (Addr × Obj)} {σ : St} {H : Hp} {s : Shared} (I : Inv X pins σ H s) : ∀ (ds : List D) (vs : List V) (us : List Value) (ns : List NestedKey), Rps (kw X) H ds vs → Vals vs us → nks ds = some ns → NestedAll s.heap ns us
  | [], vs, us, ns, r, rv, e => by
    rw [show vs = [] from r] at rv
    cases rv; cases (show some [] = some ns from e); exact .nil
  | d :: ds, vs, us, ns, ⟨v, rest, e1, q, qs⟩, rv, e => by
    subst e1
    cases rv with
    | cons r1 r2 =>
      unfold nks at e
      split at e
      · rename_i k ks h1 h2
        cases e
        exact .cons (nested_is I d v _ k q r1 h1) (nested_all I ds rest _ ks qs r2 h2)
      · cases e
end
theorem key_is {pins : List (Addr × Obj)} {σ : St} {H : Hp} {s : Shared} (I : Inv X pins σ H s) {d : D} {b : Addr} {n : NestedKey} (r : Rp (kw X) H d (.ref b)) (e : nk d = some n) (hd : n.depth ≤ 8) : (nestedKind X.prog X.w).is s.heap n b :=
  ⟨nested_is I d _ _ n r rfl e, hd⟩
theorem RkvN.all {K : KW} {H : Hp} : ∀ {kvs : List (D × D)} {xs : List (NestedKey × Addr × Value)}, RkvN K H kvs xs → ∀ x ∈ xs, ∃ k d v, nk k = some x.1 ∧ x.1.depth ≤ 8 ∧ Rp K H k (.ref x.2.1) ∧ RelV v x.2.2 ∧ Rp K H d v
  | [], _, h, x, hx => by rw [show _ = [] from h] at hx; cases hx
  | (k, d) :: r, _, ⟨n, b, u, v, t, e, ek, dp, q1, rv, q, qs⟩, x, hx => by
    subst e
    rcases List.mem_cons.mp hx with rfl | hx
    · exact ⟨k, d, v, ek, dp, q1, rv, q⟩
    · exact RkvN.all qs x hx
theorem dict_at {pins : List (Addr × Obj)} {σ : St} {H : Hp} {s : Shared} (I : Inv X pins σ H s) {a : Addr} {o : Obj} {es : Array DictEntry} {ep : Nat} {kvs : List (D × D)} {xs : List (NestedKey × Addr × Value)} (ha : Rd H a (.ext fun h => h.get? a = some o))
    (h1 : o.ExactDict) (h2 : o.data = .dict es ep) (h3 : es.toList = xs.map (entryOfKey (nestedKind X.prog X.w))) (h4 : (xs.map (·.1)).Nodup) (h5 : RkvN (kw X) H kvs xs) : s.heap.DictOfH (nestedKind X.prog X.w) a xs := by
  have ok : ObjOk X.prog X.w H s.heap a (.ext fun h => h.get? a = some o) := ha.ok I.hok
  exact ⟨o, es, ep, ok.1, h1, h2, h3, fun x hx => let ⟨k, d, v, e, dp, q, _, _⟩ := h5.all x hx; key_is I q e dp, h4⟩
theorem RkvN.look {K : KW} {H : Hp} {k : D} {n : NestedKey} (hk : nk k = some n) : ∀ {kvs : List (D × D)} {xs : List (NestedKey × Addr × Value)}, RkvN K H kvs xs →
    (∀ d, lookD kvs k = some d → ∃ p v, atKey xs n = some p ∧ RelV v p.2 ∧ Rp K H d v) ∧ (lookD kvs k = none → atKey xs n = none)
  | [], _, h => by rw [show _ = [] from h]; exact ⟨fun d e => (by cases e), fun _ => rfl⟩
  | (k', d') :: r, _, ⟨n', b, u, v, t, e, ek, dp, q1, rv, q, qs⟩ => by
    subst e
    have ih := RkvN.look hk qs
    have e1 : kEq k' k = decide (n' = n) := kEq_iff ek hk
    unfold lookD atKey at ih ⊢
    rw [List.find?_cons, List.find?_cons]
    simp only [e1]
    by_cases z : n' = n
    · rw [decide_eq_true z]
      refine ⟨fun d ed => ?_, fun ed => by cases ed⟩
      cases (show some d' = some d from ed)
      exact ⟨(b, u), v, rfl, rv, q⟩
    · rw [decide_eq_false z]
      exact ih
theorem RkvN.append {K : KW} {H : Hp} : ∀ {kvs ks : List (D × D)} {xs ys : List (NestedKey × Addr × Value)}, RkvN K H kvs xs → RkvN K H ks ys → RkvN K H (kvs ++ ks) (xs ++ ys)
  | [], _, _, _, h, g => by rw [show _ = [] from h]; exact g
  | (k, d) :: r, _, _, _, ⟨n, b, u, v, t, e, ek, dp, q1, rv, q, qs⟩, g => by
    subst e
    exact ⟨n, b, u, v, _, rfl, ek, dp, q1, rv, q, RkvN.append qs g⟩
theorem RkvN.map {K : KW} {H : Hp} {k d : D} {n : NestedKey} {v : V} {u : Value} (hk : nk k = some n) (rv : RelV v u) (q : Rp K H d v) : ∀ {kvs : List (D × D)} {xs : List (NestedKey × Addr × Value)}, RkvN K H kvs xs →
    RkvN K H (kvs.map fun p => if kEq p.1 k then (p.1, d) else p) (xs.map (putAt n u))
  | [], _, h => by rw [show _ = [] from h]; exact rfl
  | (k', d') :: r, _, ⟨n', b, u', v', t, e, ek, dp, q1, rv', q', qs⟩ => by
    subst e
    have e1 : kEq k' k = decide (n' = n) := kEq_iff ek hk
    rw [List.map_cons, List.map_cons]
    by_cases z : n' = n
    · simp only [e1, decide_eq_true z, if_true, putAt]
      exact ⟨n', b, u, v, _, by rw [if_pos z], ek, dp, q1, rv, q, RkvN.map hk rv q qs⟩
    · simp only [e1, decide_eq_false z, Bool.false_eq_true, if_false, putAt]
      exact ⟨n', b, u', v', _, by rw [if_neg z], ek, dp, q1, rv', q', RkvN.map hk rv q qs⟩
theorem RkvN.put {K : KW} {H : Hp} {k d : D} {n : NestedKey} {b : Addr} {v : V} {u : Value} (hk : nk k = some n) (hd : n.depth ≤ 8) (rk : Rp K H k (.ref b)) (rv : RelV v u) (q : Rp K H d v) {kvs : List (D × D)} {xs : List (NestedKey × Addr × Value)} (h : RkvN K H kvs xs) :
    RkvN K H (putD kvs k d) (storedH xs n b u) := by
  obtain ⟨l1, l2⟩ := h.look hk
  unfold putD storedH
  cases e : lookD kvs k with
  | some z =>
    obtain ⟨p, v', e2, _, _⟩ := l1 z e
    rw [e2]
    simp only [Option.isSome_some, if_true]
    exact h.map hk rv q
  | none =>
    rw [l2 e]
    simp only [Option.isSome_none, Bool.false_eq_true, if_false]
    exact h.append ⟨n, b, u, v, [], rfl, hk, hd, rk, rv, q, rfl⟩
theorem RkvN.merge {K : KW} {H : Hp} : ∀ {more kvs : List (D × D)} {ys xs : List (NestedKey × Addr × Value)}, RkvN K H kvs xs → RkvN K H more ys → RkvN K H (mergeD kvs more) (storedAllH xs ys)
  | [], kvs, _, _, h, g => by rw [show _ = [] from g]; exact h
  | (k, d) :: r, kvs, _, xs, h, ⟨n, b, u, v, t, e, ek, dp, q1, rv, q, qs⟩ => by
    subst e
    exact RkvN.merge (more := r) (kvs := putD kvs k d) (xs := storedH xs n b u) (h.put ek dp q1 rv q) qs
/-- pairs of data -/
def pairsO : List D → Option (List (D × D))
  | [] => some []
  | d :: r => match d.nrm, pairsO r with
    | .tup [k, v], some s => some ((k, v) :: s)
    | _, _ => none
theorem pairs_of {pins : List (Addr × Obj)} {σ : St} {H : Hp} {s : Shared} (I : Inv X pins σ H s) : ∀ {ds : List D} {kvs : List (D × D)} {vs : List V} {us : List Value}, pairsO ds = some kvs → (∀ p ∈ kvs, ∃ n, nk p.1 = some n ∧ n.depth ≤ 8 ∧ ∀ v, Rp (kw X) H p.1 v → ∃ b, v = .ref b) → Rps (kw X) H ds vs → Vals vs us →
    ∃ (Ts : Nat → Addr) (ps : List (Value × Value)) (xs : List (NestedKey × Addr × Value)), RkvN (kw X) H kvs xs ∧ us.length = ps.length ∧ xs.length = ps.length ∧
      (∀ j k v, ps[j]? = some (k, v) → us[j]? = some (.ref (Ts j)) ∧ PairAt s.heap (Ts j) k v) ∧ ∀ (i : Nat) key v, ps[i]? = some (key, v) → ∃ n b, xs[i]? = some (n, b, v) ∧ key = .ref b
  | [], kvs, vs, us, e, _, r, rv => by
    cases (show some [] = some kvs from e)
    rw [show vs = [] from r] at rv
    cases rv
    exact ⟨fun _ => 0, [], [], rfl, rfl, rfl, fun j k v h => by simp at h, fun i k v h => by simp at h⟩
  | d :: ds, kvs, vs, us, e, hk, ⟨v, rest, e1, q, qs⟩, rv => by
    subst e1
    unfold pairsO at e
    replace q := q.nrm
    generalize d.nrm = d' at e q
    split at e
    · rename_i kd vd kvs' h2
      cases e
      cases rv with
      | cons r1 r2 =>
        rename_i u us
        obtain ⟨Ts, ps, xs, g1, g2, g3, g4, g5⟩ := pairs_of I h2 (fun p hp => hk p (List.mem_cons_of_mem _ hp)) qs r2
        obtain ⟨T, pv, rfl, hT, rp⟩ := q
        cases r1
        obtain ⟨vk, vv, rfl, q1, q2⟩ := two_args rp
        obtain ⟨n, en, dn, hb⟩ := hk (kd, vd) List.mem_cons_self
        obtain ⟨b, rfl⟩ := hb vk q1
        obtain ⟨its, r', ⟨o, o1, o2, kk, o3⟩, _⟩ := I.tuple hT
        obtain ⟨uk, uv, rfl, rk, ru⟩ : ∃ uk uv, its = [uk, uv] ∧ RelV (.ref b) uk ∧ RelV vv uv := by
          cases r' with
          | cons a1 a2 =>
            cases a2 with
            | cons b1 b2 =>
              cases b2
              exact ⟨_, _, rfl, a1, b1⟩
        cases rk
        refine ⟨fun j => match j with | 0 => T | j + 1 => Ts j, (.ref b, uv) :: ps, (n, b, uv) :: xs, ⟨n, b, uv, vv, xs, rfl, en, dn, q1, ru, q2, g1⟩, by simp [g2], by simp [g3], fun j k v h => ?_, fun i k v h => ?_⟩
        · cases j with
          | zero =>
            cases (show some (Value.ref b, uv) = some (k, v) from h)
            exact ⟨rfl, .inl ⟨o, o1, o2, kk, o3⟩⟩
          | succ j => exact g4 j k v (by simpa using h)
        · cases i with
          | zero =>
            cases (show some (Value.ref b, uv) = some (k, v) from h)
            exact ⟨n, b, rfl, rfl⟩
          | succ i => exact g5 i k v (by simpa using h)
    · cases e
def isTupK : D → Bool
  | .tup _ => true
  | .ptup _ => true
  | _ => false
theorem isTupK.of {d : D} (h : isTupK d = true) {K : KW} {H : Hp} {v : V} (r : Rp K H d v) : ∃ b, v = .ref b := by
  cases d with
  | tup ds => obtain ⟨a, vs, e, _⟩ := r; exact ⟨a, e⟩
  | ptup ds => obtain ⟨a, vs, o, e, _⟩ := r; exact ⟨a, e⟩
  | non => cases h
  | bl _ => cases h
  | int _ => cases h
  | str _ => cases h
  | ref _ => cases h
  | ty _ => cases h
  | fz _ => cases h
def keyOk (d : D) : Bool := isTupK d && match nk d with | some n => decide (n.depth ≤ 8) | none => false
/-- dict(x) of a list, of a tuple whose own object is known, of pairs whose keys are tuples -/
def bDictN (ds : List D) (M : MH) (Q : Pt) : Prop := match ds with
  | [.ptup es] => (match pairsO es with
    | some kvs => kvs.all (fun p => keyOk p.1) = true ∧ es.length ≤ sizeLine ∧ ∀ p, M p = none → Q (.ref p) (updM M p (.dic (mergeD [] kvs)))
    | none => False)
  | _ => False
theorem storedAllH_le {xs : List (NestedKey × Addr × Value)} : ∀ {ys : List (NestedKey × Addr × Value)}, (storedAllH xs ys).length ≤ xs.length + ys.length
  | [] => Nat.le_refl _
  | y :: ys => by
    have h1 := storedH_length xs y.1 y.2.1 y.2.2
    have h2 := storedAllH_le (xs := storedH xs y.1 y.2.1 y.2.2) (ys := ys)
    have e : storedAllH xs (y :: ys) = storedAllH (storedH xs y.1 y.2.1 y.2.2) ys := rfl
    rw [e, List.length_cons]; omega
theorem RkvN.len {K : KW} {H : Hp} : ∀ {kvs : List (D × D)} {xs : List (NestedKey × Addr × Value)}, RkvN K H kvs xs → xs.length = kvs.length
  | [], _, h => by rw [show _ = [] from h]; rfl
  | (k, d) :: r, _, ⟨n, b, u, v, t, e, ek, dp, q1, rv, q, qs⟩ => by subst e; rw [List.length_cons, List.length_cons, RkvN.len qs]
theorem big_ne {pins : List (Addr × Obj)} {σ : St} {H : Hp} {s : Shared} (I : Inv X pins σ H s) : (s.heap.objs.size == sysModules) = false := by
  have h := I.big
  exact beq_eq_false_iff_ne.mpr (fun e => by rw [e] at h; exact absurd h (Nat.lt_irrefl _))
theorem cd_dictN (hc : X.calm = true) (hu : X.A.units + 64 < cLine) : CD X (.type "dict") bDictN := by
  intro pins s σ H xs us Q I rv ⟨ds, M, Qm, r, m, h, k⟩
  unfold bDictN at h
  split at h
  · rename_i es
    split at h
    · rename_i kvs hk
      obtain ⟨h1, h2, h3⟩ := h
      obtain ⟨v, rfl, q⟩ := one_arg r
      obtain ⟨a, vs, o, rfl, ⟨ha, oc, od⟩, rr⟩ := q
      cases rv with
      | cons r1 r2 =>
        cases r2
        cases r1
        obtain ⟨o1, hz, its, r', o', o2, o3, n, o4⟩ := (I.hok a _ ha : s.heap.get? a = some o ∧ ObjOk X.prog X.w H s.heap a (.tup vs))
        rw [o1] at o2; cases o2
        have hk2 : ∀ p ∈ kvs, ∃ n, nk p.1 = some n ∧ n.depth ≤ 8 ∧ ∀ v, Rp (kw X) H p.1 v → ∃ b, v = .ref b := fun p hp => by
          have z := List.all_eq_true.mp h1 p hp
          unfold keyOk at z
          rw [Bool.and_eq_true] at z
          obtain ⟨z1, z2⟩ := z
          cases e : nk p.1 with
          | none => rw [e] at z2; cases z2
          | some n => rw [e] at z2; exact ⟨n, rfl, of_decide_eq_true z2, fun v rp => isTupK.of z1 rp⟩
        obtain ⟨Ts, ps, xs, g1, g2, g3, g4, g5⟩ := pairs_of I hk hk2 rr r'
        have lenE : its.length = es.length := by rw [← r'.length, rr.length]
        apply call_dict_pairsH (knd := nestedKind X.prog X.w) (ps := xs) (PairArg.tuple a its.toArray Ts ps) (I.ok.hd hc) (by show X.A.units + 1 + 1 + 8 < cLine; omega) ⟨⟨o, n, o1, oc, od, o4⟩, by simp [g2], fun j k v hj => ⟨by simpa using (g4 j k v hj).1, (g4 j k v hj).2⟩⟩ ⟨g3, fun i key v hr => g5 i key v hr⟩
        · intro h' hk' x hx
          have old : ∀ b o, s.heap.get? b = some o → h'.get? b = some o := fun b o e => hk' b o (Nat.ne_of_lt (Heap.lt_size e)) (by simp) e
          obtain ⟨kd, dd, v, e, dp, q, _, _⟩ := g1.all x hx
          have is := key_is I q e dp
          exact ⟨NestedIs.at (fun b o _ _ e _ => old b o e) _ _ is.1, is.2⟩
        · rw [← g2, lenE]; exact h2
        · intro h' tk hd' kp
          obtain ⟨od', es', ep', d1, d2, d3, d4, d5, d6⟩ := hd'
          have fr : H s.heap.objs.size = none := I.hok.fresh (Nat.le_refl _)
          have old : ∀ b o, s.heap.get? b = some o → h'.get? b = some o := fun b o e => kp b o (by simp) e
          have st := Stay.new (o := .ext fun h => h.get? s.heap.objs.size = some od') fr
          refine ⟨.ref s.heap.objs.size, upd H s.heap.objs.size (.ext fun h => h.get? s.heap.objs.size = some od'), I.laid (t' := tk) old (Nat.le_refl _) ⟨d1, ⟨_, d1⟩, fun h1 h2 z1 z2 => z2 _ z1⟩, rfl, ?_⟩
          refine k.run _ _ (.ref _) _ rfl (Go.newL fr) (m.upd (o' := .dic (mergeD [] kvs)) (fun u e => by rw [fr] at e; cases e) ⟨_, upd_same, .inr ⟨od', es', ep', _, rfl, d2, d3, d4, d6, RkvN.stay st (RkvN.merge (kvs := []) (xs := []) rfl g1), big_ne I, ?_⟩⟩) (h3 _ (m.free fr))
          have := storedAllH_le (xs := []) (ys := xs)
          rw [g3, ← g2, lenE] at this
          simp only [List.length_nil, Nat.zero_add] at this
          omega
    · exact h.elim
  · exact h.elim
/-- d[k] of such a dict -/
def oIxD : Op := fun x y M Q => match x with
  | .ref a => (match dicO M (.ref a) with
    | some kvs => keyOk y = true ∧ (match lookD kvs y with
      | some v => Q v M
      | none => False)
    | none => oIx x y M Q)
  | _ => oIx x y M Q
theorem dic_rd {H : Hp} {M : MH} (m : RelM (kw X) H M) {a : Addr} {kvs : List (D × D)} (h : dicO M (.ref a) = some kvs) : ∃ u, Rd H a u ∧ Rdic (kw X) H a u kvs := by
  unfold dicO at h
  simp only at h
  split at h
  · rename_i ks ha
    cases h
    obtain ⟨u, h1, h2⟩ := m a _ ha
    exact ⟨u, .inl h1, h2⟩
  · rename_i ks ha
    cases h
    obtain ⟨o, u, h1, h2⟩ := m a _ ha
    exact ⟨u, .inr ⟨o, h1⟩, h2⟩
  · cases h
theorem keyOk.of {d : D} (h : keyOk d = true) : isTupK d = true ∧ ∃ n, nk d = some n ∧ n.depth ≤ 8 := by
  unfold keyOk at h
  rw [Bool.and_eq_true] at h
  obtain ⟨z1, z2⟩ := h
  cases e : nk d with
  | none => rw [e] at z2; cases z2
  | some n => rw [e] at z2; exact ⟨z1, n, rfl, of_decide_eq_true z2⟩
theorem isTupK.key {y : D} (h : isTupK y = true) {n : NestedKey} (e : nk y = some n) : ∃ l, n = .tup l := by
  cases y with
  | tup ds =>
    obtain ⟨l, _, h2⟩ := Option.map_eq_some_iff.mp (show (nks ds).map NestedKey.tup = some n from e)
    exact ⟨l, h2.symm⟩
  | ptup ds =>
    obtain ⟨l, _, h2⟩ := Option.map_eq_some_iff.mp (show (nks ds).map NestedKey.tup = some n from e)
    exact ⟨l, h2.symm⟩
  | non => cases h
  | bl _ => cases h
  | int _ => cases h
  | str _ => cases h
  | ref _ => cases h
  | ty _ => cases h
  | fz _ => cases h
/-- a table of HandS with plain keys has no tuple key -/
theorem Rkv.noTup {K : KW} {H : Hp} {y : D} (hy : isTupK y = true) : ∀ {kvs : List (D × D)} {ks : List (Key × V)}, Rkv K H kvs ks → lookD kvs y = none
  | [], _, _ => rfl
  | (k, d) :: r, _, ⟨k', v, t, e, ek, q, qs⟩ => by
    have ih := Rkv.noTup hy qs
    unfold lookD at ih ⊢
    rw [List.find?_cons]
    have : kEq k y = false := by
      subst ek
      unfold kEq
      apply decide_eq_false
      intro z
      have hn : ∃ n, nk (kD k') = some n ∧ ∀ l, n ≠ .tup l := by
        cases k' with
        | inl i => exact ⟨.num i, rfl, fun l z => by cases z⟩
        | inr i => exact ⟨.text i, rfl, fun l z => by cases z⟩
      obtain ⟨n, e1, e2⟩ := hn
      rw [e1] at z
      obtain ⟨l, e3⟩ := isTupK.key hy z.symm
      exact e2 l e3
    simp only [this]
    exact ih
theorem ixD_data (hu : X.A.units + 64 < cLine) : IxR X (fun x y H Q => ∃ dx dy M Qm, Rp (kw X) H dx x ∧ Rp (kw X) H dy y ∧ RelM (kw X) H M ∧ oIxD dx dy M Qm ∧ Wn (kw X) H M Qm Q) := by
  intro value slice pins s σ H x y v u Q I rx ry ⟨dx, dy, M, Qm, qx, qy, m, h, k⟩ hs
  unfold oIxD at h
  split at h
  · rename_i a
    split at h
    · rename_i kvs hd
      obtain ⟨hk, h⟩ := h
      split at h
      · rename_i z hz
        obtain rfl : x = .ref a := qx
        cases rx
        obtain ⟨tk, n, en, dn⟩ := keyOk.of hk
        obtain ⟨b, rfl⟩ := isTupK.of tk qy
        cases ry
        obtain ⟨w, rd, rdic⟩ := dic_rd m hd
        rcases rdic with ⟨ks, rfl, rk⟩ | ⟨o, es, ep, xs, rfl, x1, x2, x3, x4, x5, x6, x7⟩
        · rw [rk.noTup tk] at hz; cases hz
        · have da := dict_at I rd x1 x2 x3 x4 x5
          obtain ⟨p, vv, e1, rv, qv⟩ := (x5.look en).1 z hz
          refine subscriptTail_builtinR (x := p.2) (T := "dict") ⟨o, (rd.ok I.hok).1, x1.1⟩ PySem.F.slot_dict_getitem.lookup ?_ hs
          refine wpAny_getItem_heap (knd := nestedKind X.prog X.w) (by show X.A.units + 1 + 8 < cLine; omega) (key_is I qy en dn) da e1 ⟨rfl, ?_⟩
          exact ⟨vv, H, I.tok _, rv, k.go m qv h⟩
      · exact h.elim
    · exact ix_data value slice pins s σ H x y v u Q I rx ry ⟨_, dy, M, Qm, qx, qy, m, h, k⟩ hs
  · exact ix_data value slice pins s σ H x y v u Q I rx ry ⟨_, dy, M, Qm, qx, qy, m, h, k⟩ hs
theorem se_ixD {S : Cl} {a b : Expr} {wa wb : Wp} {pos : Pos} (hu : X.A.units + 64 < cLine) (ha : SE X S a wa) (hb : SE X S b wb) (hs : PlainIx b) : SE X S (.Subscript a b pos) (wBin oIxD wa wb) := PE.imp' (pe_ix (ixD_data hu) ha hb hs) fun _ _ _ h => two h
end
end Pz


set_option Elab.async false
set_option linter.all false
set_option autoImplicit false
set_option maxRecDepth 100000
set_option maxHeartbeats 2000000
/-! A program's text in short form, what it asks by data, and that the long form does it. -/
namespace Pz
open PySem PySem.Spec L2
open PyProof.Rows hiding St

inductive Bo where | add | sub | mul | fdiv | mod | pow
  deriving DecidableEq
inductive Co where | lt | le | gt | ge | eq | ne | in_ | nin | isB | isNB
  deriving DecidableEq
inductive Bf where | len | abs | max | min | sum | all | any | list | tup | repr | dict
  deriving DecidableEq
inductive Mn where | append | insert | pop | extend | index
  deriving DecidableEq
inductive Ik where | val | r1 | r2 | zip
  deriving DecidableEq
inductive Tn where | nm (i : Nat) | tp (is : List Nat)
inductive Ex where
  | nev
  | var (i : Nat) | lit (d : D)
  | bin (o : Bo) (a b : Ex) | cmp (o : Co) (a b : Ex) | isN (neg : Bool) (a : Ex) | neg (a : Ex) | not_ (a : Ex) | and_ (a b : Ex) | or_ (a b : Ex) | ife (c a b : Ex) | ch2 (o o' : Co) (a b c : Ex)
  | tup (es : List Ex) | lst (es : List Ex) | ix (a b : Ex) | sl (a : Ex) (hl hh : Bool) (lo hi : Ex)
  | call (k : Nat) (es : List Ex) | blt (f : Bf) (es : List Ex) | mth (m : Mn) (o : Ex) (es : List Ex)
  | lc (vs : List Nat) (tg : Tn) (k : Ik) (a b c e : Ex)
inductive Sx where
  | nev | pass | ex (e : Ex) | ret (e : Ex) | retN | set (i : Nat) (e : Ex) | setT (u : Bool) (is : List Nat) (e : Ex) | par (i j : Nat) (a b : Ex) | stI (a b c : Ex)
  | ife (c : Ex) (p q : List Sx) | whl (c : Ex) (b : List Sx) | for_ (tg : Tn) (k : Ik) (a b : Ex) (body : List Sx) | brk | cnt

/-! ### what is asked -/
def wNev : Wp := fun _ _ _ => False
def Bo.op : Bo → Op
  | .add => oAdd | .sub => oSub | .mul => oMul | .fdiv => oFdiv | .mod => oMod | .pow => oPow
def Co.op : Co → Op
  | .lt => oLt | .le => oLe | .gt => oGt | .ge => oGe | .eq => oEq | .ne => oNe | .in_ => oInN false | .nin => oInN true | .isB => oIsB false | .isNB => oIsB true
def Bf.op : Bf → List D → MH → Pt → Prop
  | .len => bLen | .abs => bAbs | .max => bMax | .min => bMin | .sum => bSum | .all => bAll false | .any => bAll true | .list => bList | .tup => bTup | .repr => bRepr | .dict => bDictN
def Mn.op : Mn → Mto
  | .append => mAppend | .insert => mInsert | .pop => mPop | .extend => mExtend | .index => mIndex
def Tn.tgt : Tn → Tgt
  | .nm i => tgN i
  | .tp is => tgT is
def Tn.is : Tn → List Nat
  | .nm i => [i]
  | .tp is => is
def noR : XPt := fun _ _ => False
def wpIk (k : Ik) (a b : Wp) : Wi := match k with
  | .val => wiV a
  | .r1 => wiR1 a
  | .r2 => wiR2 a b
  | .zip => wiZ a b
mutual
def wpE (sp : Nat → Spec) (R : XPt) : Ex → Wp
  | .nev => wNev
  | .var i => wVar i
  | .lit d => wLit d
  | .bin o a b => wBin o.op (wpE sp R a) (wpE sp R b)
  | .cmp o a b => wBin o.op (wpE sp R a) (wpE sp R b)
  | .isN n a => wIsN n (wpE sp R a)
  | .neg a => wUn uNeg (wpE sp R a)
  | .not_ a => wNot (wpE sp R a)
  | .and_ a b => wAnd (wpE sp R a) (wpE sp R b)
  | .or_ a b => wOr (wpE sp R a) (wpE sp R b)
  | .ife c a b => wIf (wpE sp R c) (wpE sp R a) (wpE sp R b)
  | .ch2 o o' a b c => wCh2 o.op o'.op (wpE sp R a) (wpE sp R b) (wpE sp R c)
  | .tup es => wTup (wpEs sp R es)
  | .lst es => wLst (wpEs sp R es)
  | .ix a b => wBin oIxD (wpE sp R a) (wpE sp R b)
  | .sl a hl hh lo hi => wSl (wpE sp R a) (if hl then wpoS (wpE sp R lo) else wpoN) (if hh then wpoS (wpE sp R hi) else wpoN)
  | .call k es => wCallF (sp k) R (wpEs sp R es)
  | .blt f es => wCall f.op (wpEs sp R es)
  | .mth m o es => wMth tyLis m.op (wpE sp R o) (wpEs sp R es)
  | .lc vs tg k a b c e => wLc vs tg.tgt (wpIk k (wpE sp R a) (wpE sp R b)) (wpE sp noR c) (wpE sp noR e)
def wpEs (sp : Nat → Spec) (R : XPt) : List Ex → Wps
  | [] => wNil
  | e :: r => wCons (wpE sp R e) (wpEs sp R r)
end
mutual
def wpS (sp : Nat → Spec) (R : XPt) : Sx → Ws
  | .nev => fun _ _ _ => False
  | .pass => wNext
  | .ex e => wDrop (wpE sp R e)
  | .ret e => wRet (wpE sp R e)
  | .retN => wRetN
  | .set i e => wSet i (wpE sp R e)
  | .setT u is e => wSetT u is (wpE sp R e)
  | .par i j a b => wPar i j (wCons (wpE sp R a) (wCons (wpE sp R b) wNil))
  | .stI a b c => wStI oStL (wpE sp R a) (wpE sp R b) (wpE sp R c)
  | .ife c p q => wIfS (wpE sp R c) (wpSs sp R p) (wpSs sp R q)
  | .whl c b => wWhile (wpE sp R c) (wpSs sp R b)
  | .for_ tg k a b body => wFor tg.tgt (wpIk k (wpE sp R a) (wpE sp R b)) (wpSs sp R body)
  | .brk => wBrk
  | .cnt => wCnt
def wpSs (sp : Nat → Spec) (R : XPt) : List Sx → Ws
  | [] => wNext
  | s :: r => wSeq (wpS sp R s) (wpSs sp R r)
end

/-! ### from the text -/
/-- what is known of a program: a def's names by slot, how deep it stands, the defs ahead of it, constants, built-ins that are still so -/
structure Gt where
  N : List Str
  lv : Nat
  fns : List (Str × Spec)
  cons : List (Str × D)
  nb : List Str
def Gt.sp (T : Gt) (k : Nat) : Spec := match T.fns[k]? with
  | some (_, s) => s
  | none => fun _ _ _ _ => False
def visB (sc : Scope) (x : Str) : Bool := match sc.names.lookup x with
  | some .local => true
  | some .cell => true
  | some .free => true
  | _ => false
def locB (sc : Scope) (x : Str) : Bool := match sc.names.lookup x with
  | some .local => true
  | some .cell => true
  | _ => false
def glbB (sc : Scope) (x : Str) : Bool := match sc.names.lookup x with
  | some .globalImplicit => true
  | _ => false
def findN (N : List Str) (x : Str) : Option Nat := N.findIdx? fun y => decide (y = x)
def plainN (x : Str) : Bool := !(x == ("__debug__" : Str)) && !(x == ("__classdict__" : Str)) && !(x == ("__name__" : Str))
def noStar : List Expr → Bool
  | [] => true
  | .Starred _ _ :: _ => false
  | _ :: r => noStar r
def plainIx : Expr → Bool
  | .Slice .. => false
  | _ => true
def boC : Operator → Option Bo
  | .Add => some .add
  | .Sub => some .sub
  | .Mult => some .mul
  | .FloorDiv => some .fdiv
  | .Mod => some .mod
  | .Pow => some .pow
  | _ => none
def coC : CmpOp → Option Co
  | .Lt => some .lt
  | .LtE => some .le
  | .Gt => some .gt
  | .GtE => some .ge
  | .Eq => some .eq
  | .NotEq => some .ne
  | .In => some .in_
  | .NotIn => some .nin
  | .Is => some .isB
  | .IsNot => some .isNB
def bfC (x : Str) : Option Bf :=
  if x = ("len" : Str) then some .len else if x = ("abs" : Str) then some .abs else if x = ("max" : Str) then some .max else if x = ("min" : Str) then some .min else if x = ("sum" : Str) then some .sum
  else if x = ("all" : Str) then some .all else if x = ("any" : Str) then some .any else if x = ("list" : Str) then some .list else if x = ("tuple" : Str) then some .tup else if x = ("repr" : Str) then some .repr
  else if x = ("dict" : Str) then some .dict else none
def mnC (x : Str) : Option Mn :=
  if x = ("append" : Str) then some .append else if x = ("insert" : Str) then some .insert else if x = ("pop" : Str) then some .pop else if x = ("extend" : Str) then some .extend else if x = ("index" : Str) then some .index else none
def notCall : Expr → Bool
  | .Call .. => false
  | _ => true
def isNone : Expr → Bool
  | .Constant .none _ _ => true
  | _ => false
def notSet : Expr → Bool
  | .Set .. => false
  | _ => true
def namesC (N : List Str) (so : Scope) : List Expr → Option (List Nat)
  | [] => some []
  | .Name x _ :: r => if locB so x then match findN N x, namesC N so r with
    | some i, some is => some (i :: is)
    | _, _ => none else none
  | _ => none
def tgC (N : List Str) (so : Scope) : Expr → Option Tn
  | .Name x _ => if locB so x then (findN N x).map .nm else none
  | .Tuple es _ _ => (namesC N so es).map .tp
  | _ => none
def isTupE : Expr → Bool
  | .Tuple .. => true
  | _ => false
def ownC (N : List Str) (scope : Scope) : List (Str × Nat) := scope.names.filterMap fun y => match y.2 with
  | .local => (findN N y.1).map fun i => (y.1, i)
  | .cell => (findN N y.1).map fun i => (y.1, i)
  | _ => none
/-- what is walked: its kind, its parts -/
def itC (T : Gt) (sc : Scope) (tg : Expr) : Expr → Ik × Expr × Expr
  | .Call (.Name f p) [a] [] pos => if f = ("range" : Str) ∧ glbB sc f = true ∧ ("range" : Str) ∈ T.nb ∧ noStar [a] = true then (.r1, a, a) else (.val, .Call (.Name f p) [a] [] pos, a)
  | .Call (.Name f p) [a, b] [] pos => if f = ("range" : Str) ∧ glbB sc f = true ∧ ("range" : Str) ∈ T.nb ∧ noStar [a, b] = true then (.r2, a, b)
    else if f = ("zip" : Str) ∧ glbB sc f = true ∧ ("zip" : Str) ∈ T.nb ∧ noStar [a, b] = true ∧ isTupE tg = true then (.zip, a, b) else (.val, .Call (.Name f p) [a, b] [] pos, a)
  | e => (.val, e, e)
def exC (T : Gt) : Nat → Scope → Expr → Ex
  | 0, _, _ => .nev
  | n + 1, sc, e => match e with
    | .Name x _ => if plainN x = true then (if visB sc x = true then (match findN T.N x with | some i => .var i | none => .nev) else if glbB sc x = true then (match T.cons.lookup x with | some d => .lit d | none => .nev) else .nev) else .nev
    | .Constant (.int i) _ _ => .lit (.int i)
    | .Constant (.bool b) _ _ => .lit (.bl b)
    | .Constant .none _ _ => .lit .non
    | .Constant (.str x) _ _ => .lit (.str x)
    | .BinOp a op b _ => (match boC op with | some o => .bin o (exC T n sc a) (exC T n sc b) | none => .nev)
    | .UnaryOp .USub a _ => .neg (exC T n sc a)
    | .UnaryOp .Not a _ => .not_ (exC T n sc a)
    | .BoolOp _ [a] _ => exC T n sc a
    | .BoolOp .And (a :: b :: r) pos => .and_ (exC T n sc a) (exC T n sc (.BoolOp .And (b :: r) pos))
    | .BoolOp .Or (a :: b :: r) pos => .or_ (exC T n sc a) (exC T n sc (.BoolOp .Or (b :: r) pos))
    | .IfExp c a b _ => .ife (exC T n sc c) (exC T n sc a) (exC T n sc b)
    | .Compare a [op] [b] _ => if isNone b = true ∧ op = .Is then .isN false (exC T n sc a) else if isNone b = true ∧ op = .IsNot then .isN true (exC T n sc a)
      else if behindInMarks op b = false then (match coC op with | some o => .cmp o (exC T n sc a) (exC T n sc b) | none => .nev) else .nev
    | .Compare a [op, op'] [b, c] _ => if lastMarks [op, op'] [b, c] = false then (match coC op, coC op' with | some o, some o' => .ch2 o o' (exC T n sc a) (exC T n sc b) (exC T n sc c) | _, _ => .nev) else .nev
    | .Tuple es _ _ => if noStar es = true then .tup (es.map (exC T n sc)) else .nev
    | .List es _ => if noStar es = true then .lst (es.map (exC T n sc)) else .nev
    | .Subscript a (.Slice none none none _) _ => .sl (exC T n sc a) false false .nev .nev
    | .Subscript a (.Slice (some lo) none none _) _ => .sl (exC T n sc a) true false (exC T n sc lo) .nev
    | .Subscript a (.Slice none (some hi) none _) _ => .sl (exC T n sc a) false true .nev (exC T n sc hi)
    | .Subscript a (.Slice (some lo) (some hi) none _) _ => .sl (exC T n sc a) true true (exC T n sc lo) (exC T n sc hi)
    | .Subscript a b _ => if plainIx b = true then .ix (exC T n sc a) (exC T n sc b) else .nev
    | .Call (.Name f _) es [] _ => if plainN f = true ∧ noStar es = true ∧ glbB sc f = true then
        (match T.fns.findIdx? fun p => decide (p.1 = f) with
          | some k => if k < T.lv then .call k (es.map (exC T n sc)) else .nev
          | none => (match es, bfC f with
            | _ :: _, some o => if f ∈ T.nb then .blt o (es.map (exC T n sc)) else .nev
            | _, _ => .nev)) else .nev
    | .Call (.Attribute o m apos) es [] cpos => if noStar es = true ∧ notCall o = true ∧ (apos.endLine == cpos.line) = true ∧ es.length < 30 then (match mnC m with | some k => .mth k (exC T n sc o) (es.map (exC T n sc)) | none => .nev) else .nev
    | .ListComp elt [⟨tg, iter, ifs, 0⟩] scope _ => (match tgC T.N scope tg with
        | some g => if blkC T.N sc scope (ownC T.N scope) = true ∧ (g.is.all fun i => decide (i ∈ (ownC T.N scope).map (·.2))) = true ∧ notSet iter = true then
          (match ifs with
            | [] => .lc ((ownC T.N scope).map (·.2)) g (itC T sc tg iter).1 (exC T n sc (itC T sc tg iter).2.1) (exC T n sc (itC T sc tg iter).2.2) (.lit (.bl true)) (exC T n (relS scope sc) elt)
            | [c] => .lc ((ownC T.N scope).map (·.2)) g (itC T sc tg iter).1 (exC T n sc (itC T sc tg iter).2.1) (exC T n sc (itC T sc tg iter).2.2) (exC T n (relS scope sc) c) (exC T n (relS scope sc) elt)
            | _ => .nev) else .nev
        | none => .nev)
    | _ => .nev
end Pz


set_option Elab.async false
set_option linter.all false
set_option autoImplicit false
set_option maxRecDepth 100000
set_option maxHeartbeats 4000000
/-! The long form does what the short form asks. -/
namespace Pz
open PySem PySem.Spec L2
open PyProof.Rows hiding St

/-- the program's parts that a def leans on -/
structure Pk (P : Program) (w : World) (K : PySem.W.Frag) (mg : Str → Option Value) (base : Heap) (T : Gt) : Prop where
  fn : ∀ (j : Nat) (nm : Str) (sp : Spec), j < T.lv → T.fns[j]? = some (nm, sp) → ∃ f fd ps, FnG P w K mg base (j + 1) f fd ps (spOf ⟨K, P, w⟩ sp) ∧ mg nm = some (.ref f) ∧ PySem.W.keepIn K (.ref f) = true ∧ Binds K fd ps []
  con : ∀ (nm : Str) (d : D), T.cons.lookup nm = some d → ∃ u v, mg nm = some u ∧ RelV v u ∧ ∀ H, Rp ⟨K, P, w⟩ H d v
  nb : ∀ nm ∈ T.nb, mg nm = none
structure XG (T : Gt) (X : Cx) (S : Cl) (R : XPt) (sc : Scope) : Prop where
  calm : X.calm = true
  nd : X.N.Nodup
  N : X.N = T.N
  sc : X.env.scope = sc
  room : Room T.lv X.A
  gd : X.A.guards = some []
  pk : Pk X.prog X.w X.K X.mg X.base T
  pass : Passes (L2.CX X.prog X.w) X (EofR (kw X) S R)

theorem findN_get {N : List Str} {x : Str} {i : Nat} (h : findN N x = some i) : N[i]? = some x := by
  unfold findN at h
  obtain ⟨h1, h2, _⟩ := List.findIdx?_eq_some_iff_getElem.mp h
  rw [List.getElem?_eq_getElem h1, of_decide_eq_true h2]
theorem visB_of {sc : Scope} {x : Str} (h : visB sc x = true) : Vis sc x := by
  unfold visB at h
  split at h
  · exact .inl (by assumption)
  · exact .inr (.inl (by assumption))
  · exact .inr (.inr (by assumption))
  · cases h
theorem locB_of {sc : Scope} {x : Str} (h : locB sc x = true) : Loc sc x := by
  unfold locB at h
  split at h
  · exact .inl (by assumption)
  · exact .inr (by assumption)
  · cases h
theorem glbB_of {sc : Scope} {x : Str} (h : glbB sc x = true) : sc.names.lookup x = some .globalImplicit := by
  unfold glbB at h
  split at h
  · assumption
  · cases h
theorem star_cons {e : Expr} {es : List Expr} {env : Env} (h : noStar (e :: es) = true) : starEach (e :: es) env = (false, eval e env) :: starEach es env ∧ noStar es = true := by
  cases e <;> first | (cases h; done) | exact ⟨rfl, h⟩
theorem star_plain {pos : Pos} {env : Env} : ∀ {es : List Expr}, noStar es = true → (backTo pos (starEach es env)).any (·.1) = false
  | [], _ => rfl
  | e :: es, h => by
    obtain ⟨h1, h2⟩ := star_cons (env := env) h
    rw [h1]
    have ih := star_plain (pos := pos) (env := env) h2
    unfold backTo at ih ⊢
    rw [List.map_cons, List.any_cons, ih]
    rfl
theorem any_all {l : List (Bool × Sem Value)} (h : l.any (·.1) = false) : l.all (fun x => !x.1) = true := by
  rw [List.all_eq_true]
  intro x hx
  cases e : x.1 with
  | false => rfl
  | true => rw [List.any_eq_false] at h; exact absurd e (h x hx)
theorem plainN_of {x : Str} (h : plainN x = true) : (x == ("__debug__" : Str)) = false ∧ (x == ("__classdict__" : Str)) = false ∧ x ≠ ("__name__" : Str) := by
  unfold plainN at h
  simp only [Bool.and_eq_true, Bool.not_eq_true'] at h
  exact ⟨h.1.1, h.1.2, fun e => by rw [e] at h; simp at h⟩

section
variable {X : Cx} {S : Cl} {R : XPt} {sc : Scope} {T : Gt} {n : Nat}
theorem se_nev {e : Expr} : SE X S e wNev := ⟨fun _ _ _ _ _ _ ⟨_, _, _, _, h, _⟩ => h.elim⟩
theorem st_nev {e : Expr} : ST X S e wNev := ⟨fun _ _ _ _ _ _ ⟨_, _, _, _, h, _⟩ => h.elim⟩
theorem ss_nev {s : Stmt} : SS X S s (fun _ _ _ => False) := ⟨fun _ _ _ _ _ _ ⟨_, _, _, _, h, _⟩ => h.elim⟩
theorem sa_map {sp : Nat → Spec} {f : Expr → Ex} (h : ∀ e, SE X S e (wpE sp R (f e))) : ∀ {es : List Expr}, noStar es = true → SA X S es (wpEs sp R (es.map f))
  | [], _ => sa_nil
  | e :: es, hs => by
    obtain ⟨h1, h2⟩ := star_cons (env := X.env) hs
    exact sa_cons (h e) (sa_map h h2) h1
theorem wl : X.A.units + 64 < cLine → X.A.units + 64 < cLine := id
theorem XG.u64 (G : XG T X S R sc) : X.A.units + 65 < cLine := by have := G.room.un; omega
theorem co_ok (hu : X.A.units + 65 < cLine) {op : CmpOp} {o : Co} (h : coC op = some o) : OD X (compareOp op) o.op := by
  cases op <;> (simp only [coC, Option.some.injEq, reduceCtorEq] at h) <;> subst h
  · exact od_eq (by omega)
  · exact od_ne (by omega)
  · exact od_lt
  · exact od_le
  · exact od_gt
  · exact od_ge
  · exact od_isB
  · exact od_isNB
  · exact od_in hu
  · exact od_nin hu
theorem bo_ok {op : Operator} {o : Bo} (h : boC op = some o) : OD X (binaryOp op) o.op := by
  cases op <;> (simp only [boC, Option.some.injEq, reduceCtorEq] at h) <;> subst h
  · exact od_add
  · exact od_sub
  · exact od_mul
  · exact od_mod
  · exact od_pow
  · exact od_fdiv
/-- a built-in that is named so -/
theorem bf_ok (G : XG T X S R sc) {f : Str} {o : Bf} (h : bfC f = some o) (hn : f ∈ T.nb) (hg : glbB sc f = true) (hp : plainN f = true) {e : Expr} {es : List Expr} {ws : Wps} {p pos : Pos} (hs : noStar (e :: es) = true) (ha : SA X S (e :: es) ws) :
    SE X S (.Call (.Name f p) (e :: es) [] pos) (wCall o.op ws) := by
  obtain ⟨d1, d2, d3⟩ := plainN_of hp
  have gl : Gl X f := by unfold Gl Env.kindOf; rw [G.sc]; exact glbB_of hg
  have hm := G.pk.nb f hn
  obtain ⟨s1, s2⟩ := star_cons (env := X.env) hs
  have s3 := star_plain (pos := pos) (env := X.env) s2
  have hu := G.u64
  unfold bfC at h
  split at h
  · subst f; cases h; exact se_callB cd_len gl hm PySem.boot_len ha d3 d1 s1 s3
  split at h
  · subst f; cases h; exact se_callB cd_abs gl hm (by decide +kernel) ha d3 d1 s1 s3
  split at h
  · subst f; cases h; exact se_callB (cd_max G.calm) gl hm (by decide +kernel) ha d3 d1 s1 s3
  split at h
  · subst f; cases h; exact se_callB (cd_min G.calm) gl hm (by decide +kernel) ha d3 d1 s1 s3
  split at h
  · subst f; cases h; exact se_callB (cd_sum G.calm) gl hm (by decide +kernel) ha d3 d1 s1 s3
  split at h
  · subst f; cases h; exact se_callB (cd_all G.calm) gl hm (by decide +kernel) ha d3 d1 s1 s3
  split at h
  · subst f; cases h; exact se_callB (cd_any G.calm) gl hm (by decide +kernel) ha d3 d1 s1 s3
  split at h
  · subst f; cases h; exact se_callTy cd_list gl hm (by decide +kernel) ha d3 d1 s1 s3
  split at h
  · subst f; cases h; exact se_callTy cd_tup gl hm (by decide +kernel) ha d3 d1 s1 s3
  split at h
  · subst f; cases h; exact se_callB (cd_repr (by omega) G.gd) gl hm (by decide +kernel) ha d3 d1 s1 s3
  split at h
  · subst f; cases h; exact se_callTy (cd_dictN G.calm (by omega)) gl hm (by decide +kernel) ha d3 d1 s1 s3
  · cases h
theorem base_of {o : Expr} {nm : Str} (h : notCall o = true) : attributeBase o nm X.env (eval o X.env) = eval o X.env := by
  cases o <;> first | (cases h; done) | rfl
theorem mth_mk {name : Str} {apos cpos : Pos} {o : Expr} {es : List Expr} {T id : String} {wo : Wp} {ws : Wps} {mo : Mto} {ty : MH → D → Prop} (hty : ∀ {H : Hp} {M : MH} {d : D} {v : V}, ty M d → RelM (kw X) H M → Rp (kw X) H d v → tyV X.K T v H)
    (pa : PlainAttrs T) (slot : Slot T name id) (hd : typeOf (.builtin id) = pure (.type "method_descriptor")) (hm : MD X id mo) (ho : SE X S o wo) (ha : SA X S es ws) (h0 : es = [] → ws = wNil)
    (hs : noStar es = true) (hc : notCall o = true) (hline : (apos.endLine == cpos.line) = true) (hf : es.length < 30) : SE X S (.Call (.Attribute o name apos) es [] cpos) (wMth ty mo wo ws) := by
  cases es with
  | nil => rw [h0 rfl]; exact se_mth0 hty pa slot hd hm ho (base_of hc) hline
  | cons e es =>
    obtain ⟨s1, s2⟩ := star_cons (env := X.env) hs
    refine se_mth hty pa slot hd hm ho ha (base_of hc) ?_ hline s1 (star_plain s2)
    rw [Bool.and_eq_true, Bool.and_eq_true]
    exact ⟨⟨any_all (star_plain hs), rfl⟩, decide_eq_true (by show (e :: es).length + 0 + 0 < 30; omega)⟩
theorem mn_ok (G : XG T X S R sc) {m : Str} {k : Mn} (h : mnC m = some k) {apos cpos : Pos} {o : Expr} {es : List Expr} {wo : Wp} {ws : Wps} (ho : SE X S o wo) (ha : SA X S es ws) (h0 : es = [] → ws = wNil) (hs : noStar es = true) (hc : notCall o = true) (hline : (apos.endLine == cpos.line) = true) (hf : es.length < 30) :
    SE X S (.Call (.Attribute o m apos) es [] cpos) (wMth tyLis k.op wo ws) := by
  have hty : ∀ {H : Hp} {M : MH} {d : D} {v : V}, tyLis M d → RelM (kw X) H M → Rp (kw X) H d v → tyV X.K "list" v H := fun t m q => t.of m q
  unfold mnC at h
  split at h
  · subst m; cases h; exact mth_mk hty PySem.F.plainAttrs_list PySem.F.slot_list_append PySem.F.type_list_append md_append ho ha h0 hs hc hline hf
  split at h
  · subst m; cases h; exact mth_mk hty PySem.F.plainAttrs_list PySem.F.slot_list_insert PySem.F.type_list_insert md_insert ho ha h0 hs hc hline hf
  split at h
  · subst m; cases h; exact mth_mk hty PySem.F.plainAttrs_list PySem.F.slot_list_pop PySem.F.type_list_pop md_pop ho ha h0 hs hc hline hf
  split at h
  · subst m; cases h; exact mth_mk hty PySem.F.plainAttrs_list PySem.F.slot_list_extend PySem.F.type_list_extend md_extend ho ha h0 hs hc hline hf
  split at h
  · subst m; cases h; exact mth_mk hty PySem.F.plainAttrs_list PySem.F.slot_list_index PySem.F.type_list_index (md_index G.u64) ho ha h0 hs hc hline hf
  · cases h
theorem call_ok (G : XG T X S R sc) {f : Str} {k : Nat} (hk : (T.fns.findIdx? fun p => decide (p.1 = f)) = some k) (hlt : k < T.lv) (hg : glbB sc f = true) (hp : plainN f = true) {es : List Expr} {ws : Wps} {p pos : Pos} (hs : noStar es = true) (ha : SA X S es ws) (h0 : es = [] → ws = wNil) :
    SE X S (.Call (.Name f p) es [] pos) (wCallF (T.sp k) R ws) := by
  obtain ⟨d1, d2, d3⟩ := plainN_of hp
  have gl : Gl X f := by unfold Gl Env.kindOf; rw [G.sc]; exact glbB_of hg
  obtain ⟨h1, h2, _⟩ := List.findIdx?_eq_some_iff_getElem.mp hk
  have ef : T.fns[k]? = some (T.fns[k].1, T.fns[k].2) := List.getElem?_eq_getElem h1
  obtain ⟨fa, fd, ps, F, hm, kp, bd⟩ := G.pk.fn k _ _ hlt ef
  have en : T.fns[k].1 = f := of_decide_eq_true h2
  rw [en] at hm
  have es' : T.sp k = T.fns[k].2 := by unfold Gt.sp; rw [ef]
  rw [es']
  have hr : Room (k + 1) X.A := G.room.mono hlt
  cases es with
  | nil => rw [h0 rfl]; exact se_call0 F hr G.gd gl hm kp bd G.pass d1
  | cons e es =>
    obtain ⟨s1, s2⟩ := star_cons (env := X.env) hs
    exact se_call F hr G.gd gl hm kp bd G.pass ha d1 s1 (star_plain s2)
theorem con_ok (G : XG T X S R sc) {x : Str} {d : D} {pos : Pos} (h : T.cons.lookup x = some d) (hg : glbB sc x = true) (hp : plainN x = true) : SE X S (.Name x pos) (wLit d) := by
  obtain ⟨d1, d2, d3⟩ := plainN_of hp
  have gl : Gl X x := by unfold Gl Env.kindOf; rw [G.sc]; exact glbB_of hg
  obtain ⟨u, v, hm, r, q⟩ := G.pk.con x d h
  exact se_lit (pe_glob gl hm r d1) q
/-- within a comprehension's block -/
theorem XG.blk (G : XG T X S R sc) {scope : Scope} (s : Shared) (H : Hp) (C : Addr) (cl : List (Str × Addr)) (fp : List Addr) : XG T (X.blk s H scope (compEnvC scope cl C X.env) fp) S noR (relS scope sc) := by
  refine ⟨G.calm, G.nd, G.N, ?_, G.room, G.gd, G.pk, ?_⟩
  · show relS scope X.env.scope = relS scope sc
    rw [G.sc]
  · intro pins σ H' s0 e s1 I c
    obtain ⟨a, B, H2, cls, d, h1, h2, h3, h4, h5, h6, h7, ex, M', h8, h9, h10, h11⟩ := c
    exact h11.elim
theorem blk_store {scope : Scope} {x : Str} (h : locB scope x = true) (s : Shared) (H : Hp) (C : Addr) (cl : List (Str × Addr)) (fp : List Addr) : Loc (X.blk s H scope (compEnvC scope cl C X.env) fp).env.scope x ∧
    ((X.blk s H scope (compEnvC scope cl C X.env) fp).fn x = true ∨ (X.blk s H scope (compEnvC scope cl C X.env) fp).env.scope.names.lookup x = some .local) := by
  have e : (X.blk s H scope (compEnvC scope cl C X.env) fp).env.scope = relS scope X.env.scope := rfl
  rw [e]
  rcases locB_of h with q | q
  · have z : (relS scope X.env.scope).names.lookup x = some .local := lookup_relS_keep (by decide) q
    exact ⟨.inl z, .inr z⟩
  · have z : (relS scope X.env.scope).names.lookup x = some .cell := lookup_relS_keep (by decide) q
    exact ⟨.inr z, .inl (by show (scope.names.lookup x == some NameKind.cell) = true; rw [q]; rfl)⟩
/-- targets -/
theorem assign_plain {e : Expr} {es : List Expr} {env : Env} (h : ∀ t p, e ≠ .Starred t p) : (assignEach (e :: es) env).map (·.2) = assign e env :: (assignEach es env).map (·.2) ∧ (assignEach (e :: es) env).findIdx? (·.1) = ((assignEach es env).findIdx? (·.1)).map (· + 1) ∧ (assignEach (e :: es) env).length = (assignEach es env).length + 1 := by
  cases e <;> first | exact absurd rfl (h _ _) | (refine ⟨rfl, ?_, rfl⟩; show List.findIdx? _ ((false, _) :: _) = _; rw [List.findIdx?_cons]; rfl)
theorem names_ok {X : Cx} {so : Scope} (hN : X.N.Nodup) (hs : ∀ x, locB so x = true → Loc X.env.scope x ∧ (X.fn x = true ∨ X.env.scope.names.lookup x = some .local)) : ∀ {es : List Expr} {is : List Nat}, namesC X.N so es = some is →
    SGs X S es is ∧ (assignEach es X.env).length = is.length ∧ (assignEach es X.env).findIdx? (·.1) = none
  | [], _, h => by cases h; exact ⟨sgs_nil, rfl, rfl⟩
  | e :: es, is, h => by
    cases e with
    | Name x p =>
      unfold namesC at h
      split at h
      · rename_i hl
        split at h
        · rename_i i is' h1 h2
          cases h
          obtain ⟨g1, g2, g3⟩ := names_ok hN hs h2
          obtain ⟨a1, a2, a3⟩ := assign_plain (e := .Name x p) (es := es) (env := X.env) (fun t p z => by cases z)
          obtain ⟨l1, l2⟩ := hs x hl
          exact ⟨sgs_cons (sg_name hN (findN_get h1) l1 l2) g1 a1, by rw [a3, g2]; rfl, by rw [a2, g3]; rfl⟩
        · cases h
      · cases h
    | _ => cases h
theorem tg_ok {X : Cx} {so : Scope} {tg : Expr} {g : Tn} (hc : X.calm = true) (hN : X.N.Nodup) (hs : ∀ x, locB so x = true → Loc X.env.scope x ∧ (X.fn x = true ∨ X.env.scope.names.lookup x = some .local)) (h : tgC X.N so tg = some g) : SG X S tg g.is g.tgt := by
  cases tg with
  | Name x p =>
    have h : (if locB so x = true then (findN X.N x).map .nm else none) = some g := h
    split at h
    · rename_i hl
      obtain ⟨i, h1, rfl⟩ := Option.map_eq_some_iff.mp h
      obtain ⟨l1, l2⟩ := hs x hl
      exact sg_name hN (findN_get h1) l1 l2
    · cases h
  | Tuple es k p =>
    have h : (namesC X.N so es).map .tp = some g := h
    obtain ⟨is, h1, rfl⟩ := Option.map_eq_some_iff.mp h
    obtain ⟨g1, g2, g3⟩ := names_ok (S := S) hN hs h1
    exact sg_tup hc g1 g2 rfl g3
  | _ => cases h
theorem set_plain {iter : Expr} {env : Env} (h : notSet iter = true) : ∀ x, foldedSetIterable iter env x = pure x := by
  intro x
  cases iter <;> first | (cases h; done) | rfl
/-- a test of and, or: whatever the whole is -/
theorem pw_bool {op : BoolOp} {vs : List Expr} {pos : Pos} {t : TT} (h : PT X (.BoolOp op vs pos) t) : PW X (.BoolOp op vs pos) t := ⟨fun _ => h.run⟩
theorem st_ifE {c a b : Expr} {wc wa wb : Wp} {pos : Pos} (hc : ST X S c wc) (ha : ST X S a wa) (hb : ST X S b wb) : ST X S (.IfExp c a b pos) (wIf wc wa wb) := by
  refine ⟨fun pins s σ H Q I ⟨ρ, M, Qm, r, h, k⟩ => ?_⟩
  show wpAny _ _ (do if ← isTrue c X.env (eval c X.env) then isTrue a X.env (eval a X.env) else isTrue b X.env (eval b X.env)) _ _ _
  refine wpAny_bind (thn (hc.run pins s σ H (fun c' H1 => ∃ M1, Go H M H1 M1 ∧ RelM (kw X) H1 M1 ∧ (if c' = true then wa ρ M1 fun d M' => ∃ b, d = .bl b ∧ Qm b M' else wb ρ M1 fun d M' => ∃ b, d = .bl b ∧ Qm b M')) I (tst r h fun c H' M' s m q => ⟨M', s, m, q⟩)) fun d s1 h1 => ?_)
  · obtain ⟨H1, I1, M1, g, m, q⟩ := h1
    cases d with
    | true => exact ha.run pins s1 σ H1 _ I1 ⟨ρ, M1, Qm, r.go g m, q, fun b H2 M2 g2 m2 q2 => k b H2 M2 (g.trans g2) m2 q2⟩
    | false => exact hb.run pins s1 σ H1 _ I1 ⟨ρ, M1, Qm, r.go g m, q, fun b H2 M2 g2 m2 q2 => k b H2 M2 (g.trans g2) m2 q2⟩
theorem st_ch2 {a b c : Expr} {wa wb wc : Wp} {pos : Pos} {op op' : CmpOp} {o o' : Op} (ho : OD X (compareOp op) o) (ho' : OD X (compareOp op') o') (ha : SE X S a wa) (hb : SE X S b wb) (hc : SE X S c wc) (hm : lastMarks [op, op'] [b, c] = false) :
    ST X S (.Compare a [op, op'] [b, c] pos) (wCh2 o o' wa wb wc) :=
  PT.imp' (pt_chain ho ho' ha hb hc (hm := hm)) fun σ H Q h => by
    obtain ⟨ρ, M, Qm, r, h, k⟩ := tt_of h
    refine ⟨ρ, M, _, r, h, ⟨fun v1 H1 d1 M1 q1 s1 m1 h1 => ?_⟩⟩
    refine ⟨ρ, M1, _, r.go s1 m1, h1, ⟨fun v2 H2 d2 M2 q2 s2 m2 h2 => ?_⟩⟩
    refine ⟨d1, d2, M2, _, Rp.stay (s2.stay m1) _ _ q1, q2, m2, h2, ⟨fun v3 H3 d3 M3 q3 s3 m3 h3 => ?_⟩⟩
    obtain ⟨b, rfl, h5⟩ := isB.of h3
    refine ⟨b, q3, ?_⟩
    cases b with
    | true =>
      rw [if_pos rfl] at h5 ⊢
      refine ⟨ρ, M3, _, ((r.go s1 m1).go s2 m2).go s3 m3, h5, ⟨fun v4 H4 d4 M4 q4 s4 m4 h4 => ?_⟩⟩
      exact ⟨d2, d4, M4, Qm, Rp.stay ((s3.trans s4).stay m2) _ _ q2, q4, m4, h4, k.of (((s1.trans s2).trans s3).trans s4)⟩
    | false =>
      rw [if_neg Bool.false_ne_true] at h5 ⊢
      exact (k.of ((s1.trans s2).trans s3)).go m3 (d := .bl false) rfl h5
/-- the walked thing -/
theorem it_ok (G : XG T X S R sc) {sp : Nat → Spec} {f : Expr → Ex} (h : ∀ e, SE X S e (wpE sp R (f e))) {tg iter : Expr} : SI X S tg iter (wpIk (itC T sc tg iter).1 (wpE sp R (f (itC T sc tg iter).2.1)) (wpE sp R (f (itC T sc tg iter).2.2))) := by
  unfold itC
  split
  · rename_i fn p a pos
    split
    · rename_i c
      obtain ⟨rfl, c2, c3, c4⟩ := c
      have gl : Gl X (Str.ofString "range") := by unfold Gl Env.kindOf; rw [G.sc]; exact glbB_of c2
      exact si_rng1 gl (G.pk.nb _ c3) (h a) (star_cons c4).1
    · exact si_val (h _)
  · rename_i fn p a b pos
    split
    · rename_i c
      obtain ⟨rfl, c2, c3, c4⟩ := c
      have gl : Gl X (Str.ofString "range") := by unfold Gl Env.kindOf; rw [G.sc]; exact glbB_of c2
      obtain ⟨s1, s2⟩ := star_cons (env := X.env) c4
      obtain ⟨s3, s4⟩ := star_cons (env := X.env) s2
      exact si_rng2 gl (G.pk.nb _ c3) (h a) (h b) s3 (by rw [s1, s3]; rfl)
    · split
      · rename_i c
        obtain ⟨rfl, c2, c3, c4, c5⟩ := c
        have gl : Gl X (Str.ofString "zip") := by unfold Gl Env.kindOf; rw [G.sc]; exact glbB_of c2
        obtain ⟨s1, s2⟩ := star_cons (env := X.env) c4
        obtain ⟨s3, s4⟩ := star_cons (env := X.env) s2
        cases tg <;> first | (cases c5; done) | exact si_zip gl (G.pk.nb _ c3) (h a) (h b) s3 s1 (star_plain s2)
      · exact si_val (h _)
  · exact si_val (h _)
end

/-- THE RULE: an expression does what its short form asks -/
theorem ex_ok (T : Gt) : ∀ (n : Nat) {X : Cx} {S : Cl} {R : XPt} {sc : Scope} (e : Expr), XG T X S R sc → SE X S e (wpE T.sp R (exC T n sc e)) ∧ ST X S e (wpE T.sp R (exC T n sc e))
  | 0, X, S, R, sc, e, G => ⟨se_nev, st_nev⟩
  | n + 1, X, S, R, sc, e, G => by
    have ih := fun e => (ex_ok T n e G).1
    have iht := fun e => (ex_ok T n e G).2
    have hu := G.u64
    have val : ∀ {w : Wp}, SE X S e w → (∀ whole, isTrue e X.env whole = (do let v ← whole; standAt e.pos; holding [v] (truthy v))) → SE X S e w ∧ ST X S e w := fun h he => ⟨h, st_val h he⟩
    unfold exC
    split
    · -- a name
      rename_i x p
      split
      · rename_i hp
        obtain ⟨d1, d2, d3⟩ := plainN_of hp
        split
        · rename_i hv
          split
          · rename_i i hi
            refine val (se_var (by rw [G.N]; exact findN_get hi) (by rw [G.sc]; exact visB_of hv) d1 d2) (fun _ => rfl)
          · exact ⟨se_nev, st_nev⟩
        · split
          · rename_i hg
            split
            · rename_i d hd
              exact val (con_ok G hd hg hp) (fun _ => rfl)
            · exact ⟨se_nev, st_nev⟩
          · exact ⟨se_nev, st_nev⟩
      · exact ⟨se_nev, st_nev⟩
    · exact val (se_lit pe_int fun _ => rfl) (fun _ => rfl)
    · exact val (se_lit pe_bl fun _ => rfl) (fun _ => rfl)
    · exact val (se_lit pe_non fun _ => rfl) (fun _ => rfl)
    · exact val (se_lit pe_str fun _ => rfl) (fun _ => rfl)
    · rename_i a op b p
      split
      · rename_i o ho
        exact val (se_bin (bo_ok ho) (ih a) (ih b)) (fun _ => rfl)
      · exact ⟨se_nev, st_nev⟩
    · rename_i a p
      exact val (se_un ud_neg (ih a)) (fun _ => rfl)
    · rename_i a p
      exact ⟨se_not (ih a), st_not (iht a)⟩
    · rename_i op a p
      exact ⟨pe_one (ih a), (sw_of (iht a)).pt⟩
    · rename_i a b r p
      have z := ex_ok T n (.BoolOp .And (b :: r) p) G
      exact ⟨se_and (ih a) z.1, (sw_and (iht a) (pw_bool z.2)).pt⟩
    · rename_i a b r p
      have z := ex_ok T n (.BoolOp .Or (b :: r) p) G
      exact ⟨se_or (ih a) z.1, (sw_or (iht a) (pw_bool z.2)).pt⟩
    · rename_i c a b p
      exact ⟨se_ifE (iht c) (ih a) (ih b), st_ifE (iht c) (iht a) (iht b)⟩
    · -- one comparison
      rename_i a op b p
      split
      · rename_i c
        obtain ⟨c1, rfl⟩ := c
        cases b with
        | Constant v j q =>
          cases v <;> first | (cases c1; done) | exact ⟨se_isN (ih a), st_isN (ih a)⟩
        | _ => cases c1
      · split
        · rename_i c
          obtain ⟨c1, rfl⟩ := c
          cases b with
          | Constant v j q =>
            cases v <;> first | (cases c1; done) | exact ⟨se_notN (ih a), st_notN (ih a)⟩
          | _ => cases c1
        · split
          · rename_i hm
            split
            · rename_i o ho
              exact ⟨se_cmp (co_ok hu ho) (ih a) (ih b) hm, st_cmp (co_ok hu ho) (ih a) (ih b) hm⟩
            · exact ⟨se_nev, st_nev⟩
          · exact ⟨se_nev, st_nev⟩
    · rename_i a op op' b c p
      split
      · rename_i hm
        split
        · rename_i o o' h1 h2
          exact ⟨se_ch2 (co_ok hu h1) (co_ok hu h2) (ih a) (ih b) (ih c) hm, st_ch2 (co_ok hu h1) (co_ok hu h2) (ih a) (ih b) (ih c) hm⟩
        · exact ⟨se_nev, st_nev⟩
      · exact ⟨se_nev, st_nev⟩
    · rename_i es k p
      split
      · rename_i hs
        exact val (se_tup (sa_map ih hs)) (fun _ => rfl)
      · exact ⟨se_nev, st_nev⟩
    · rename_i es p
      split
      · rename_i hs
        exact val (se_lst (sa_map ih hs)) (fun _ => rfl)
      · exact ⟨se_nev, st_nev⟩
    · rename_i a p1 p2
      exact val (se_sl (ih a) so_none so_none) (fun _ => rfl)
    · rename_i a lo p1 p2
      exact val (se_sl (ih a) (so_some (ih lo)) so_none) (fun _ => rfl)
    · rename_i a hi p1 p2
      exact val (se_sl (ih a) so_none (so_some (ih hi))) (fun _ => rfl)
    · rename_i a lo hi p1 p2
      exact val (se_sl (ih a) (so_some (ih lo)) (so_some (ih hi))) (fun _ => rfl)
    · rename_i a b p _ _ _ _
      split
      · rename_i hp
        refine val (se_ixD (by omega) (ih a) (ih b) ?_) (fun _ => rfl)
        intro o i
        cases b <;> first | (cases hp; done) | rfl
      · exact ⟨se_nev, st_nev⟩
    · -- a call of a name
      rename_i f p es q
      split
      · rename_i c
        obtain ⟨c1, c2, c3⟩ := c
        have h0 : es = [] → wpEs T.sp R (es.map (exC T n sc)) = wNil := fun z => by subst z; rfl
        split
        · rename_i k hk
          split
          · rename_i hlt
            exact val (call_ok G hk hlt c3 c1 c2 (sa_map ih c2) h0) (fun _ => rfl)
          · exact ⟨se_nev, st_nev⟩
        · split
          · rename_i e1 e2 o ho
            split
            · rename_i hn
              exact val (bf_ok G ho hn c3 c1 c2 (sa_map ih c2)) (fun _ => rfl)
            · exact ⟨se_nev, st_nev⟩
          · exact ⟨se_nev, st_nev⟩
      · exact ⟨se_nev, st_nev⟩
    · -- a method
      rename_i o m apos es cpos
      split
      · rename_i c
        obtain ⟨c1, c2, c3, c4⟩ := c
        have h0 : es = [] → wpEs T.sp R (es.map (exC T n sc)) = wNil := fun z => by subst z; rfl
        split
        · rename_i k hk
          exact val (mn_ok G hk (ih o) (sa_map ih c1) h0 c1 c2 c3 c4) (fun _ => rfl)
        · exact ⟨se_nev, st_nev⟩
      · exact ⟨se_nev, st_nev⟩
    · -- a comprehension
      rename_i elt tg iter ifs scope p
      split
      · rename_i g hg
        split
        · rename_i c
          obtain ⟨c1, c2, c3⟩ := c
          have hsub : ∀ i ∈ g.is, i ∈ (ownC T.N scope).map (·.2) := fun i hi => of_decide_eq_true (List.all_eq_true.mp c2 i hi)
          have bo : BlkOk X.N X.env.scope scope (ownC T.N scope) := by rw [G.N, G.sc]; exact blkOk_by c1
          have hgg : ∀ (s : Shared) (H : Hp) (C : Addr) (cl : List (Str × Addr)) (fp : List Addr), SG (X.blk s H scope (compEnvC scope cl C X.env) fp) S tg g.is g.tgt := fun s H C cl fp =>
            tg_ok (X := X.blk s H scope (compEnvC scope cl C X.env) fp) (so := scope) G.calm G.nd (fun x hx => blk_store hx s H C cl fp) (by show tgC X.N scope tg = some g; rw [G.N]; exact hg)
          have hin : ∀ (e : Expr) (s : Shared) (H : Hp) (C : Addr) (cl : List (Str × Addr)) (fp : List Addr), SE (X.blk s H scope (compEnvC scope cl C X.env) fp) S e (wpE T.sp noR (exC T n (relS scope sc) e)) ∧
              ST (X.blk s H scope (compEnvC scope cl C X.env) fp) S e (wpE T.sp noR (exC T n (relS scope sc) e)) := fun e s H C cl fp => ex_ok T n e (G.blk s H C cl fp)
          split
          · refine val (se_lc G.calm G.nd (it_ok G ih) bo hsub hgg (fun s H C cl fp => ?_) (fun s H C cl fp => (hin elt s H C cl fp).1) (set_plain c3)) (fun _ => rfl)
            exact PTs.imp' pts_nil fun σ H Q ⟨ρ, M, Qm, r, ⟨b, e, h⟩, k⟩ => by
              cases e
              exact k true H M (Go.refl H M) r.m h
          · rename_i c
            exact val (se_lc G.calm G.nd (it_ok G ih) bo hsub hgg (fun s H C cl fp => sts_one (hin c s H C cl fp).2) (fun s H C cl fp => (hin elt s H C cl fp).1) (set_plain c3)) (fun _ => rfl)
          · exact ⟨se_nev, st_nev⟩
        · exact ⟨se_nev, st_nev⟩
      · exact ⟨se_nev, st_nev⟩
    · exact ⟨se_nev, st_nev⟩
end Pz


set_option Elab.async false
set_option linter.all false
set_option autoImplicit false
set_option maxRecDepth 100000
set_option maxHeartbeats 4000000
/-! Statements and defs: the long form does what the short form asks. -/
namespace Pz
open PySem PySem.Spec L2
open PyProof.Rows hiding St

def notComp : Expr → Bool
  | .ListComp .. => false
  | .SetComp .. => false
  | .DictComp .. => false
  | _ => true
def isLc : Expr → Bool
  | .ListComp .. => true
  | _ => false
def parC (N : List Str) (sc : Scope) : List Expr → List Expr → Option (Nat × Nat × Expr × Expr)
  | [.Name x px, .Name y py], [a, b] => if sc.names.lookup x = some .local ∧ sc.names.lookup y = some .local ∧ (py.line == px.line) = true ∧ x ≠ y ∧ noStar [a, b] = true ∧ (foldedForSure 8 a && foldedForSure 8 b) = false ∧ (constantsAlone 8 a && constantsAlone 8 b) = false then
      (match findN N x, findN N y with
        | some i, some j => some (i, j, a, b)
        | _, _ => none) else none
  | _, _ => none
def stC (T : Gt) : Nat → Scope → Stmt → Sx
  | 0, _, _ => .nev
  | n + 1, sc, s => match s with
    | .Pass _ => .pass
    | .Expr (.Constant (.str _) _ _) _ => .pass
    | .Expr e _ => if notComp e = true then .ex (exC T n sc e) else .nev
    | .Return (some e) _ => .ret (exC T n sc e)
    | .Return none _ => .retN
    | .Assign [.Name x _] e _ => if locB sc x = true ∧ (notComp e = true ∨ isLc e = true) then (match findN T.N x with | some i => .set i (exC T n sc e) | none => .nev) else .nev
    | .Assign [.Tuple es _ _] (.Tuple vs _ _) _ => (match parC T.N sc es vs with | some (i, j, a, b) => .par i j (exC T n sc a) (exC T n sc b) | none => .nev)
    | .Assign [.Tuple es _ _] e _ => if (notComp e = true ∨ isLc e = true) ∧ isTupE e = false then (match namesC T.N sc es with | some is => .setT (isLc e) is (exC T n sc e) | none => .nev) else .nev
    | .Assign [.Subscript a b _] c _ => if plainIx b = true ∧ (notComp c = true ∨ isLc c = true) then .stI (exC T n sc a) (exC T n sc b) (exC T n sc c) else .nev
    | .If c p q _ => .ife (exC T n sc c) (p.map (stC T n sc)) (q.map (stC T n sc))
    | .While c b [] _ => .whl (exC T n sc c) (b.map (stC T n sc))
    | .For tg iter b [] _ => (match tgC T.N sc tg with
      | some g => if notSet iter = true then .for_ g (itC T sc tg iter).1 (exC T n sc (itC T sc tg iter).2.1) (exC T n sc (itC T sc tg iter).2.2) (b.map (stC T n sc)) else .nev
      | none => .nev)
    | .Break _ => .brk
    | .Continue _ => .cnt
    | _ => .nev

structure XS (T : Gt) (X : Cx) (S : Cl) (R : XPt) (sc : Scope) : Prop where
  g : XG T X S R sc
  kind : sc.kind = .function
  own : PassesOwn (model X.prog X.w) X.A X.env X.xe
  fn : ∀ x, X.fn x = true

section
variable {X : Cx} {S : Cl} {R : XPt} {sc : Scope} {T : Gt} {n : Nat}
theorem XS.store (G : XS T X S R sc) (x : Str) (h : locB sc x = true) : Loc X.env.scope x ∧ (X.fn x = true ∨ X.env.scope.names.lookup x = some .local) := by
  rw [G.g.sc]
  exact ⟨locB_of h, .inl (G.fn x)⟩
theorem sss_map {sp : Nat → Spec} {f : Stmt → Sx} (h : ∀ s, SS X S s (wpS sp R (f s))) : ∀ {ss : List Stmt}, SSs X S ss (wpSs sp R (ss.map f))
  | [] => sss_nil
  | s :: ss => sss_cons (h s) (sss_map h)
theorem sw_plain {e : Expr} {t : Option Expr} {l : Nat} {env : Env} (h : notComp e = true) : swapsWith e t l env = pure false := by
  cases e <;> first | (cases h; done) | rfl
theorem sw_tgt {e tg : Expr} {l : Nat} {env : Env} (h : notComp e = true ∨ isLc e = true) (ht : ∀ x p, tg ≠ .Name x p) : swapsWith e (some tg) l env = pure false := by
  rcases h with h | h
  · exact sw_plain h
  · cases e with
    | ListComp a b c d => cases tg <;> first | exact absurd rfl (ht _ _) | rfl
    | _ => cases h
def swB (sc scope : Scope) (x : Str) (l1 l2 : Nat) : Bool := sc.names.lookup x == some .local && l1 == l2 && !(scope.names.any fun (n, k) => n == x && (k == .local || k == .cell))
theorem sw_name {elt : Expr} {gs : List Comprehension} {scope : Scope} {pos py : Pos} {y : Str} {l : Nat} {env : Env} (hk : env.scope.kind = .function) :
    swapsWith (.ListComp elt gs scope pos) (some (.Name y py)) l env = pure (swB env.scope scope y py.line pos.line) := by
  have hb : env.blockKind = .function := by unfold Env.blockKind; rw [hk]; rfl
  unfold swapsWith swB
  show (pure (env.blockKind == .function && env.kindOf y == some .local && py.line == pos.line && !(scope.names.any fun (n, k) => n == y && (k == .local || k == .cell))) : Sem Bool) = _
  rw [hb]
  rfl
theorem par_sw {N : List Str} {x y : Str} {px py pt pt2 : Pos} {kt k2 : Nat} {a b : Expr} {env : Env} (hk : env.scope.kind = .function) (hx : env.scope.names.lookup x = some .local) (hy : env.scope.names.lookup y = some .local) (hl : (py.line == px.line) = true) (hne : x ≠ y)
    (hs : noStar [a, b] = true) (hf : (foldedForSure 8 a && foldedForSure 8 b) = false) (hc : (constantsAlone 8 a && constantsAlone 8 b) = false) :
    swappedStores [.Tuple [.Name x px, .Name y py] kt pt] (.Tuple [a, b] k2 pt2) env = pure (some [x, y]) := by
  have hb : env.blockKind = .function := by unfold Env.blockKind; rw [hk]; rfl
  have kx : env.kindOf x = some .local := hx
  have ky : env.kindOf y = some .local := hy
  have st : ([a, b].any fun | .Starred .. => true | _ => false) = false := by
    cases a <;> first | (cases hs; done) | (cases b <;> first | (cases hs; done) | rfl)
  have hl' : py.line = px.line := by simpa using hl
  have ed : ([x, y] : List Str).eraseDups.length = 2 := by
    have : (y == x) = false := by simpa using (Ne.symm hne)
    simp [List.eraseDups_cons, this]
  unfold swappedStores
  simp only [hb, st, kx, ky, hl', ed, hf, hc, List.length_cons, List.length_nil, List.filterMap_cons, List.filterMap_nil, List.head?_cons, Option.map_some, Option.getD_some, Expr.pos, List.all_cons, List.all_nil, Bool.and_true]
  simp
  rw [if_neg, if_pos ed]
  rintro (h | h)
  · cases a <;> first | (cases hs; done) | (cases h; done)
  · cases a <;> first | (cases hs; done) | (cases b <;> first | (cases hs; done) | (cases h; done))
end

theorem st_ok (T : Gt) : ∀ (n : Nat) {X : Cx} {S : Cl} {R : XPt} {sc : Scope} (s : Stmt), XS T X S R sc → SS X S s (wpS T.sp R (stC T n sc s))
  | 0, X, S, R, sc, s, G => ss_nev
  | n + 1, X, S, R, sc, s, G => by
    have ih := fun s => st_ok T n (X := X) (S := S) (R := R) (sc := sc) s G
    have ie := fun e => ex_ok T n e G.g
    have kf : X.env.scope.kind = .function := by rw [G.g.sc]; exact G.kind
    unfold stC
    split
    · exact ss_pass
    · exact ss_doc
    · rename_i e p _
      split
      · rename_i h
        exact ss_expr (ie e).1 (sw_plain h)
      · exact ss_nev
    · rename_i e p
      exact ss_ret (ie e).1
    · exact ss_retN
    · -- x = e
      rename_i x px e p
      split
      · rename_i c
        obtain ⟨c1, c2⟩ := c
        obtain ⟨l1, l2⟩ := G.store x c1
        split
        · rename_i i hi
          have hi' : X.N[i]? = some x := by rw [G.g.N]; exact findN_get hi
          rcases c2 with c2 | c2
          · exact ss_set G.g.nd hi' l1 (ie e).1 (sw_plain c2) l2
          · cases e with
            | ListComp elt gs scope pos =>
              have hsw := sw_name (elt := elt) (gs := gs) (scope := scope) (pos := pos) (py := px) (y := x) (l := p.line) (env := X.env) kf
              cases hb : swB X.env.scope scope x px.line pos.line with
              | false =>
                rw [hb] at hsw
                exact ss_set G.g.nd hi' l1 (ie _).1 hsw l2
              | true =>
                rw [hb] at hsw
                have xl : X.env.scope.names.lookup x = some .local := by
                  unfold swB at hb
                  simp only [Bool.and_eq_true, beq_iff_eq] at hb
                  exact hb.1.1
                cases n with
                | zero => exact ⟨fun _ _ _ _ _ _ ⟨_, _, _, _, h, _⟩ => h.elim⟩
                | succ n =>
                  show SS X S _ (wSet i (wpE T.sp R (exC T (n + 1) sc (.ListComp elt gs scope pos))))
                  have nv : SS X S (.Assign [.Name x px] (.ListComp elt gs scope pos) p) (wSet i wNev) := ⟨fun _ _ _ _ _ _ ⟨_, _, _, _, h, _⟩ => h.elim⟩
                  have ih := fun e => (ex_ok T n e G.g).1
                  unfold exC
                  split <;> first | exact nv | (rename_i he; cases he; done) | skip
                  rename_i elt' tg iter ifs scope' p' he
                  cases he
                  split
                  · rename_i g hg
                    split
                    · rename_i c
                      obtain ⟨c1, c2, c3⟩ := c
                      have hsub : ∀ i ∈ g.is, i ∈ (ownC T.N scope).map (·.2) := fun i hi => of_decide_eq_true (List.all_eq_true.mp c2 i hi)
                      have bo : BlkOk X.N X.env.scope scope (ownC T.N scope) := by rw [G.g.N, G.g.sc]; exact blkOk_by c1
                      have hgg : ∀ (s : Shared) (H : Hp) (C : Addr) (cl : List (Str × Addr)) (fp : List Addr), SG (X.blk s H scope (compEnvC scope cl C X.env) fp) S tg g.is g.tgt := fun s H C cl fp =>
                        tg_ok (X := X.blk s H scope (compEnvC scope cl C X.env) fp) (so := scope) G.g.calm G.g.nd (fun x hx => blk_store hx s H C cl fp) (by show tgC X.N scope tg = some g; rw [G.g.N]; exact hg)
                      have hin : ∀ (e : Expr) (s : Shared) (H : Hp) (C : Addr) (cl : List (Str × Addr)) (fp : List Addr), SE (X.blk s H scope (compEnvC scope cl C X.env) fp) S e (wpE T.sp noR (exC T n (relS scope sc) e)) ∧
                          ST (X.blk s H scope (compEnvC scope cl C X.env) fp) S e (wpE T.sp noR (exC T n (relS scope sc) e)) := fun e s H C cl fp => ex_ok T n e (G.g.blk s H C cl fp)
                      split
                      · refine ss_setLc G.g.calm G.g.nd hi' xl hsw (it_ok G.g ih) bo hsub hgg (fun s H C cl fp => ?_) (fun s H C cl fp => (hin elt s H C cl fp).1) (set_plain c3)
                        exact PTs.imp' pts_nil fun σ H Q ⟨ρ, M, Qm, r, ⟨b, e, h⟩, k⟩ => by
                          cases e
                          exact k true H M (Go.refl H M) r.m h
                      · rename_i c
                        exact ss_setLc G.g.calm G.g.nd hi' xl hsw (it_ok G.g ih) bo hsub hgg (fun s H C cl fp => sts_one (hin c s H C cl fp).2) (fun s H C cl fp => (hin elt s H C cl fp).1) (set_plain c3)
                      · exact nv
                    · exact nv
                  · exact nv
            | _ => cases c2
        · exact ss_nev
      · exact ss_nev
    · -- a, b = x, y
      rename_i es kt pt vs k2 pt2 p
      split
      · rename_i i j a b hp
        unfold parC at hp
        split at hp
        · rename_i x px y py a' b'
          split at hp
          · rename_i c
            obtain ⟨c1, c2, c3, c4, c5, c6, c7⟩ := c
            split at hp
            · rename_i i' j' h1 h2
              cases hp
              obtain ⟨s1, s2⟩ := star_cons (env := X.env) c5
              obtain ⟨s3, s4⟩ := star_cons (env := X.env) s2
              rw [← G.g.sc] at c1 c2
              have g1 : X.N[i]? = some x := by rw [G.g.N]; exact findN_get h1
              have g2 : X.N[j]? = some y := by rw [G.g.N]; exact findN_get h2
              refine ss_par G.g.calm G.g.nd g1 g2 (fun z => c4 ?_) c1 c2 (sa_cons (ie a).1 (sa_cons (ie b).1 sa_nil s3) s1) (par_sw (N := T.N) kf c1 c2 c3 c4 c5 c6 c7) rfl
              subst z
              rw [g1] at g2
              exact Option.some.inj g2
            · cases hp
          · cases hp
        · cases hp
      · exact ss_nev
    · -- names = e
      rename_i es k pt e p _
      split
      · rename_i c
        obtain ⟨c1, c2⟩ := c
        split
        · rename_i is his
          rw [← G.g.N] at his
          obtain ⟨g1, g2, g3⟩ := names_ok (S := S) G.g.nd G.store his
          have hs : swapsWithSole [.Tuple es k pt] e p.line X.env = pure false := (show swapsWith e (some (.Tuple es k pt)) p.line X.env = pure false from sw_tgt c1 (fun x p z => by cases z))
          have hw : swappedStores [.Tuple es k pt] e X.env = pure none := by cases e <;> first | (cases c2; done) | rfl
          have h1 : (assignEach [.Tuple es k pt] X.env).map (·.2) = [assign (.Tuple es k pt) X.env] := rfl
          cases hl : isLc e with
          | true => exact ss_setU G.g.calm (ie e).1 g1 g2 rfl g3 hs hw h1
          | false => exact ss_setT G.g.calm (ie e).1 g1 g2 rfl g3 hs hw h1
        · exact ss_nev
      · exact ss_nev
    · -- a[b] = c
      rename_i a b pt c p
      split
      · rename_i hh
        obtain ⟨h1, h2⟩ := hh
        refine ss_stI std_list (ie a).1 (ie b).1 (ie c).1 ?_ (show swapsWith c (some (.Subscript a b pt)) p.line X.env = pure false from sw_tgt h2 (fun x p z => by cases z)) ?_ rfl
        · intro v
          cases b <;> first | (cases h1; done) | rfl
        · cases c <;> rfl
      · exact ss_nev
    · rename_i c p q pos
      exact ss_if (ie c).2 (sss_map ih) (sss_map ih)
    · rename_i c b pos
      exact ss_while G.own (ie c).2 (sss_map ih)
    · rename_i tg iter b pos
      split
      · rename_i g hg
        split
        · rename_i hs
          exact ss_for G.own G.g.calm (it_ok G.g fun e => (ie e).1) (tg_ok (so := sc) G.g.calm G.g.nd G.store (by rw [G.g.N]; exact hg)) (sss_map ih) (set_plain hs)
        · exact ss_nev
      · exact ss_nev
    · exact ss_brk
    · exact ss_cnt
    · exact ss_nev
end Pz


set_option Elab.async false
set_option linter.all false
set_option autoImplicit false
set_option maxRecDepth 100000
set_option maxHeartbeats 4000000
/-! A def keeps its promise if its short form does. -/
namespace Pz
open PySem PySem.Spec L2
open PyProof.Rows hiding St

section
variable {P : Program} {w : World} {K : PySem.W.Frag} {mg : Str → Option Value} {base : Heap}
theorem def_ok (T : Gt) (n : Nat) {x qual : Str} {st : Stmt} {f : Addr} {fd : FuncData} {ps : List Str} {sp : Spec} (F : Fun K x qual st f fd) (Sc : FnScope T.N ps (defScope st)) (pk : Pk P w K mg base T) (c : List Sx) (hc : (defBody st).map (stC T n (defScope st)) = c)
    (len : ∀ ds M Q R, sp ds M Q R → ds.length = ps.length) (vc : ∀ ds M Q R, sp ds M Q R → wpSs T.sp R c { nx := fun _ M' => Q .non M', rt := Q } (startD T.N ds) M) :
    FnG P w K mg base (T.lv + 1) f fd ps (spOf ⟨K, P, w⟩ sp) := by
  refine Pz.Fun.okG F Sc len fun cdv A outer s H M E ds Q R room gd kx h => ⟨_, ?_, vc ds M Q R h⟩
  rw [← hc]
  refine sss_map fun s0 => st_ok T n s0 ⟨⟨rfl, Sc.nd, rfl, rfl, room, gd, pk, ?_⟩, Sc.kind, passes_of rfl, fun _ => rfl⟩
  refine passes_call (takes_of rfl rfl rfl rfl) ?_
  rintro cls dd σ H' ⟨ex, M', r, m, g, q⟩
  exact kx.run cls dd H' ex M' r g m q
end
end Pz


set_option Elab.async false
set_option linter.all false
set_option autoImplicit false
set_option maxRecDepth 100000
set_option maxHeartbeats 4000000
/-! The end: the law's def called from outside. -/
namespace Pz
open PySem PySem.Spec L2
open PyProof.Rows hiding St

/-- a law of whole numbers: true of every script of at most n -/
def lawSp (n : Nat) : Spec := fun ds M Q _ => ∃ ns : List Int, ns.length ≤ n ∧ ds = [.fz (ns.map .int)] ∧ ∀ M', Q (.bl true) M'
def scrH (K : PySem.W.Frag) (a : Addr) (vs : List Value) (ns : List Int) : Hp := fun b => if b = a ∧ K.lookup a = none then some (.frz { cls := .type "list", data := .seq vs.toArray } (.lst (ns.map V.int))) else none
theorem callG {P : Program} {w : World} {K : PySem.W.Frag} {mg mb : Str → Option Value} {k n : Nat} {fa a : Addr} {fd : FuncData} {x : Str} {s : Shared} {vs : List Value} {ns : List Int}
    (KX : K.In s.heap) (hns : s.heap.Ns mainGlobals mg) (hb : s.heap.Ns builtinsNs mb) (hbb : ∀ y : Str, y ≠ "__name__" → mb y = bootBuiltins y) (hlim : s.heap.NoLimit) (hg : s.gens = #[])
    (ha : s.heap.get? a = some { cls := .type "list", data := .seq vs.toArray }) (hi : IntsAre vs ns) (hl : ns.length ≤ sizeLine) (hn : ns.length ≤ n) (hr : Room k callerA)
    (F : ∀ base : Heap, K.In base → base.Ns mainGlobals mg → FnG P w K mg base k fa fd [x] (spOf ⟨K, P, w⟩ (lawSp n))) (hbind : ∀ (s : Shared) (u : Value), BindsTo s fd ⟨[u], []⟩ [(x, u)]) :
    codeAny (model P w) callerA (.call (.ref fa) ⟨[.ref a], []⟩) (fun r s' => r = .ok (.ret (.bool true)) ∧ OldK s.heap s'.heap ∧ s'.os = s.os ∧ AllBare s'.gens) s := by
  have lenV := hi.length
  have rv : Vals (ns.map V.int) vs := vals_ints hi
  obtain ⟨H, hH⟩ : ∃ H, H = scrH K a vs ns := ⟨_, rfl⟩
  have inH : ∀ {b : Addr} {u : HO}, H b = some u → b = a ∧ K.lookup a = none ∧ u = .frz { cls := .type "list", data := .seq vs.toArray } (.lst (ns.map V.int)) := by
    intro b u e
    rw [hH] at e; unfold scrH at e
    split at e
    · rename_i h; cases e; exact ⟨h.1, h.2, rfl⟩
    · cases e
  have outH : ∀ {b : Addr}, (∀ u, H b = some u → False) → H b = none := fun {b} h => by
    cases e : H b with
    | none => rfl
    | some u => exact (h u e).elim
  have lab : ∀ {L : Addr} {m : Str → Option Value}, s.heap.Ns L m → (hidT s.heap H).Ns L m := by
    rintro L m ⟨o, es, ep, e, d, r⟩
    refine ⟨o, es, ep, hidT_get e (outH fun u z => ?_), d, r⟩
    obtain ⟨rfl, -, -⟩ := inH z
    rw [ha] at e
    cases e
    simp at d
  have kB : K.In (hidT s.heap H) := fun b o e => hidT_get (KX b o e) (outH fun u z => by
    obtain ⟨rfl, z2, -⟩ := inH z
    rw [z2] at e; cases e)
  have ok : HOk P w H s.heap := by
    intro b u z
    obtain ⟨rfl, -, rfl⟩ := inH z
    exact ⟨ha, by rw [List.length_map]; exact hl, vs, _, rv, ha⟩
  have md : Mod K mg (hidT s.heap H) := ⟨kB, lab hns, ⟨mb, lab hb, hbb⟩, by obtain ⟨mc, h1, h2⟩ := hlim; exact ⟨mc, lab h1, h2⟩⟩
  have e0 : Env0 P w K mg (hidT s.heap H) callerA [] s H := ⟨rfl, md, fun b o e => of_hidT e, Nat.le_of_eq (hidT_size _ _), trivial, fun b hb => absurd (show b ∈ ([] : List Addr) from hb) (by simp), ok, .of_eq hg⟩
  have sq : SqF ⟨K, P, w⟩ H a (ns.map V.int) := by
    cases hk : K.lookup a with
    | none => exact .inl ⟨_, by rw [hH]; unfold scrH; rw [if_pos ⟨rfl, hk⟩]⟩
    | some o =>
      have e := KX a o hk
      rw [ha] at e; cases e
      exact .inr (.inr ⟨_, vs.toArray, _, hk, rfl, rfl, rfl, by rw [List.size_toArray, lenV]; exact hl, by simpa using rv⟩)
  have wish : spOf ⟨K, P, w⟩ (lawSp n) [.ref a] H (fun v _ => v = .bl true) (fun _ _ _ => False) :=
    Exists.intro [.fz (ns.map .int)] <| Exists.intro (fun _ => none) <| Exists.intro (fun d _ => d = .bl true) <| Exists.intro noR ⟨⟨_, _, rfl, ⟨a, _, rfl, sq, Rps.ints.mpr rfl⟩, rfl⟩, (fun _ _ z => by have z' : (none : Option MO) = some _ := z; exact nomatch z'), ⟨ns, hn, rfl, fun _ => rfl⟩,
      ⟨fun v H' d M' r _ _ q => by have q' : d = .bl true := q; subst q'; exact r⟩, ⟨fun _ _ _ _ _ _ _ _ q => q⟩⟩
  refine codeAny_mono ((F _ kB (lab hns)).run callerA [] s H ⟨[.ref a], []⟩ [.ref a] [.ref a] _ _ hr rfl e0 (hbind s (.ref a)) (.cons rfl .nil) wish) fun r s' h => ?_
  match r, h with
  | .error e, h =>
    obtain ⟨_, _, _, _, _, _, _, _, _, _, _, _, z⟩ := h
    exact z.elim
  | .ok (.ret u), h =>
    obtain ⟨v, H', os, bare, un, hok', r', q⟩ := h
    cases q
    obtain rfl : u = Value.bool true := r'
    refine ⟨rfl, OldK.of_keep fun b o e => ?_, os, bare⟩
    cases z : H b with
    | none => exact un.keep b o e z (by intro y; exact absurd (show b ∈ ([] : List Addr) from y) (by simp)) (by simp)
    | some u =>
      obtain ⟨rfl, -, rfl⟩ := inH z
      have z1 := (ok _ _ z).1
      have z2 := (hok' _ _ (un.frzs _ _ _ z)).1
      rw [e] at z1; cases z1
      exact z2
  | .ok .next, h => exact False.elim h
  | .ok .brk, h => exact False.elim h
  | .ok .cont, h => exact False.elim h

theorem walkG {l : PySem.W.OpenLaw} {n k : Nat} {q : Program} {loose : List Str} {XP : (Str → Option Value) → Heap → Prop} {YP : World → Heap → Prop} {d : DefRec} {K : Params → PySem.W.Frag} {x : Str}
    (hn : l.most = some n) (hn2 : n ≤ sizeLine) (hdf : d.params.defaults = []) (hr : Room k callerA) (hY : ∀ (w : World) (h : Heap), YP w h → (K w.params).In h)
    (F : ∀ (w : World) (mg : Str → Option Value) (fa : Addr) (h : Heap), (K w.params).In h → h.Ns mainGlobals mg → mg d.name = some (.ref fa) →
      ∃ fd : FuncData, (∀ (s : Shared) (u : Value), BindsTo s fd ⟨[u], []⟩ [(x, u)]) ∧ ∀ base : Heap, (K w.params).In base → base.Ns mainGlobals mg → FnG l.prog w (K w.params) mg base k fa fd [x] (spOf ⟨K w.params, l.prog, w⟩ (lawSp n))) :
    PySem.W.WalkO q loose XP YP l.row.toRowW d [] (fun f vs => PySem.call f vs) := by
  refine Att.attach_call hn hdf fun w s0 s1 mg mb fa o pm cd doc a vs ns G Y ho hd hcd hmg hobj hints hlen hg => ?_
  obtain ⟨fd, b, f⟩ := F w mg fa _ (hY w _ Y) G.T.g hmg
  exact callG (hY w _ Y) G.T.g G.T.b G.T.builtins G.T.nolimit hg hobj hints (Nat.le_trans hlen hn2) hlen hr f b
end Pz


set_option Elab.async false
set_option linter.all false
set_option autoImplicit false
set_option maxRecDepth 100000
set_option maxHeartbeats 4000000
/-! Ratios: what stands for one, how great it may be. -/
namespace Pz
open PySem PySem.Spec L2
open PyProof.Rows hiding St

def rD (q : Rat) : D := .tup [.int q.num, .int q.den]
theorem rD_def (q : Rat) : rD q = .tup [.int q.num, .int q.den] := rfl
/-- small enough for all that is done with it -/
def big : Nat := 2 ^ 1900
def Ok (q : Rat) : Prop := q.num.natAbs < big ∧ q.den < big
theorem big_log {n : Nat} (h : n < big) : n.log2 < 1900 := by
  by_cases h0 : n = 0
  · subst h0; decide
  · exact (Nat.log2_lt h0).mpr h
theorem log_mul {a b x y : Nat} (ha : a.log2 < x) (hb : b.log2 < y) : (a * b).log2 < x + y := by
  by_cases h0 : a = 0
  · subst h0; simp; omega
  by_cases h1 : b = 0
  · subst h1; simp; omega
  rw [Nat.log2_lt h0] at ha
  rw [Nat.log2_lt h1] at hb
  rw [Nat.log2_lt (Nat.mul_ne_zero h0 h1), Nat.pow_add]
  exact Nat.mul_lt_mul'' ha hb
theorem cmul_of {i j : Int} {x y : Nat} (ha : i.natAbs.log2 < x) (hb : j.natAbs.log2 < y) (h : x + y ≤ 1000000) : CMulW i j := by
  unfold CMulW; omega
theorem Ok.n {q : Rat} (h : Ok q) : q.num.natAbs.log2 < 1900 := big_log h.1
theorem Ok.d {q : Rat} (h : Ok q) : q.den.log2 < 1900 := big_log h.2
theorem Ok.d' {q : Rat} (h : Ok q) : ((q.den : Int)).natAbs.log2 < 1900 := by rw [Int.natAbs_natCast]; exact h.d
theorem Ok.nn {q r : Rat} (h : Ok q) (k : Ok r) : CMulW q.num r.num := cmul_of h.n k.n (by decide)
theorem Ok.nd {q r : Rat} (h : Ok q) (k : Ok r) : CMulW q.num r.den := cmul_of h.n k.d' (by decide)
theorem Ok.dn {q r : Rat} (h : Ok q) (k : Ok r) : CMulW q.den r.num := cmul_of h.d' k.n (by decide)
theorem Ok.dd {q r : Rat} (h : Ok q) (k : Ok r) : CMulW q.den r.den := cmul_of h.d' k.d' (by decide)
theorem den_pos' (q : Rat) : 0 < (q.den : Int) := by exact_mod_cast q.den_pos

/-! ### what the reckoning gives -/
theorem divInt_num_pos {t b : Int} (hb : 0 < b) : (Rat.divInt t b).num = t / (Nat.gcd t.natAbs b.natAbs : Nat) := by
  rw [Rat.num_divInt, Int.sign_eq_one_of_pos hb, Int.one_mul, Int.gcd, Nat.gcd_comm]
theorem divInt_den_pos {t b : Int} (hb : 0 < b) : ((Rat.divInt t b).den : Int) = b / (Nat.gcd t.natAbs b.natAbs : Nat) := by
  rw [Rat.den_divInt, if_neg (by omega), Int.gcd, Nat.gcd_comm]
  have : ((b.natAbs : Nat) : Int) = b := by omega
  rw [Int.natCast_ediv, this]
theorem rD_divInt {t b : Int} (hb : 0 < b) : rD (Rat.divInt t b) = .tup [.int (t / (Nat.gcd t.natAbs b.natAbs : Nat)), .int (b / (Nat.gcd t.natAbs b.natAbs : Nat))] := by
  rw [rD_def, divInt_num_pos hb, divInt_den_pos hb]
theorem q_add (q r : Rat) : Rat.divInt (q.num * r.den + r.num * q.den) (q.den * r.den) = q + r := by
  rw [Rat.add_def', ← Rat.divInt_ofNat, Int.natCast_mul]
theorem q_sub (q r : Rat) : Rat.divInt (q.num * r.den - r.num * q.den) (q.den * r.den) = q - r := by
  rw [Rat.sub_def', ← Rat.divInt_ofNat, Int.natCast_mul]
theorem q_mul (q r : Rat) : Rat.divInt (q.num * r.num) (q.den * r.den) = q * r := by
  rw [Rat.mul_def', ← Rat.divInt_ofNat, Int.natCast_mul]
theorem q_div (q r : Rat) : Rat.divInt (q.num * r.den) (q.den * r.num) = q / r := by
  rw [Rat.div_def, Rat.inv_def, ← Rat.divInt_mul_divInt, Rat.num_divInt_den]
theorem q_neg (t b : Int) : Rat.divInt (-t) (-b) = Rat.divInt t b := Rat.neg_divInt_neg t b
theorem dd_pos (q r : Rat) : 0 < (q.den : Int) * r.den := Int.mul_pos (den_pos' q) (den_pos' r)
theorem dn_pos {q r : Rat} (h : 0 < r) : 0 < (q.den : Int) * r.num := by
  refine Int.mul_pos (den_pos' q) ?_
  have := (Rat.lt_iff 0 r).mp h
  simpa using this
theorem num_pos_iff {r : Rat} : 0 < r.num ↔ 0 < r := by
  rw [Rat.lt_iff]; simp

/-! ### gcd -/
theorem gcd_step {a b : Nat} (hb : 0 < b) : Nat.gcd b (a % b) = Nat.gcd a b := by
  rw [Nat.gcd_comm b, ← Nat.gcd_rec, Nat.gcd_comm]
theorem abs_nat (i : Int) : (if i < 0 then -i else i) = (i.natAbs : Int) := by split <;> omega

/-! ### readings of data -/
theorem ixD_num (q : Rat) (M : MH) (Q : Pt) : oIxD (rD q) (.int 0) M Q = Q (.int q.num) M := rfl
theorem ixD_den (q : Rat) (M : MH) (Q : Pt) : oIxD (rD q) (.int 1) M Q = Q (.int q.den) M := rfl
theorem nrm_rD (q : Rat) : (rD q).nrm = rD q := rfl
end Pz


set_option Elab.async false
set_option linter.all false
set_option autoImplicit false
set_option maxRecDepth 100000
set_option maxHeartbeats 4000000
/-! The defs on ratios: their promises, their short forms. -/
namespace Pz
open PySem PySem.Spec L2
open PyProof.Rows hiding St

/-! ### steps -/
section
variable {sp : Nat → Spec} {R : XPt} {s : Sx} {r : List Sx} {E : ME} {ρ : Ev} {M : MH}
theorem vs_cons (h : wpS sp R s { E with nx := fun ρ M => wpSs sp R r E ρ M } ρ M) : wpSs sp R (s :: r) E ρ M := h
theorem vs_nil (h : E.nx ρ M) : wpSs sp R [] E ρ M := h
theorem nil_eq : wpSs sp R [] E ρ M = E.nx ρ M := rfl
end

/-! ### promises -/
def spGcd : Spec := fun ds M Q _ => ∃ a b : Nat, ds = [.int a, .int b] ∧ Q (.int (Nat.gcd a b : Nat)) M
def spRatio : Spec := fun ds M Q _ => ∃ t b : Int, ds = [.int t, .int b] ∧ 0 < b ∧ b.natAbs.log2 < 9000 ∧ Q (rD (Rat.divInt t b)) M
def spPlus : Spec := fun ds M Q _ => ∃ q r : Rat, ds = [rD q, rD r] ∧ Ok q ∧ Ok r ∧ Q (rD (q + r)) M
def spMinus : Spec := fun ds M Q _ => ∃ q r : Rat, ds = [rD q, rD r] ∧ Ok q ∧ Ok r ∧ Q (rD (q - r)) M
def spTimes : Spec := fun ds M Q _ => ∃ q r : Rat, ds = [rD q, rD r] ∧ Ok q ∧ Ok r ∧ Q (rD (q * r)) M
def spOver : Spec := fun ds M Q _ => ∃ q r : Rat, ds = [rD q, rD r] ∧ Ok q ∧ Ok r ∧ 0 < r ∧ Q (rD (q / r)) M
def spLess : Spec := fun ds M Q _ => ∃ q r : Rat, ds = [rD q, rD r] ∧ Ok q ∧ Ok r ∧ Q (.bl (decide (q < r))) M

/-! ### short forms -/
def cGcd : List Sx := [.whl (.cmp .ne (.var 1) (.lit (.int 0))) [.par 0 1 (.var 1) (.bin .mod (.var 0) (.var 1))], .ret (.var 0)]
def cRatio (iG : Nat) : List Sx := [.ife (.cmp .eq (.var 1) (.lit (.int 0))) [.nev] [], .ife (.cmp .lt (.var 1) (.lit (.int 0))) [.set 0 (.neg (.var 0)), .set 1 (.neg (.var 1))] [], .set 2 (.call iG [.blt .abs [.var 0], .var 1]), .ret (.tup [.bin .fdiv (.var 0) (.var 2), .bin .fdiv (.var 1) (.var 2)])]
def cRatioL (iG : Nat) : List Sx := [.set 2 (.call iG [.blt .abs [.var 0], .blt .abs [.var 1]]), .ife (.cmp .lt (.var 1) (.lit (.int 0))) [.set 2 (.neg (.var 2))] [], .ret (.tup [.bin .fdiv (.var 0) (.var 2), .bin .fdiv (.var 1) (.var 2)])]
def cPlus (iR : Nat) : List Sx := [.ret (.call iR [.bin .add (.bin .mul (.ix (.var 0) (.lit (.int 0))) (.ix (.var 1) (.lit (.int 1)))) (.bin .mul (.ix (.var 1) (.lit (.int 0))) (.ix (.var 0) (.lit (.int 1)))), .bin .mul (.ix (.var 0) (.lit (.int 1))) (.ix (.var 1) (.lit (.int 1)))])]
def cMinus (iR : Nat) : List Sx := [.ret (.call iR [.bin .sub (.bin .mul (.ix (.var 0) (.lit (.int 0))) (.ix (.var 1) (.lit (.int 1)))) (.bin .mul (.ix (.var 1) (.lit (.int 0))) (.ix (.var 0) (.lit (.int 1)))), .bin .mul (.ix (.var 0) (.lit (.int 1))) (.ix (.var 1) (.lit (.int 1)))])]
def cTimes (iR : Nat) : List Sx := [.ret (.call iR [.bin .mul (.ix (.var 0) (.lit (.int 0))) (.ix (.var 1) (.lit (.int 0))), .bin .mul (.ix (.var 0) (.lit (.int 1))) (.ix (.var 1) (.lit (.int 1)))])]
def cOver (iR : Nat) : List Sx := [.ret (.call iR [.bin .mul (.ix (.var 0) (.lit (.int 0))) (.ix (.var 1) (.lit (.int 1))), .bin .mul (.ix (.var 0) (.lit (.int 1))) (.ix (.var 1) (.lit (.int 0)))])]
def cLess : List Sx := [.ret (.cmp .lt (.bin .mul (.ix (.var 0) (.lit (.int 0))) (.ix (.var 1) (.lit (.int 1)))) (.bin .mul (.ix (.var 1) (.lit (.int 0))) (.ix (.var 0) (.lit (.int 1)))))]

section
variable {sp : Nat → Spec} {M : MH} {Q : Pt} {R : XPt} {ds : List D}
abbrev Vc (sp : Nat → Spec) (c : List Sx) (N : List Str) (s : Spec) : Prop := ∀ ds M Q R, s ds M Q R → wpSs sp R c { nx := fun _ M' => Q .non M', rt := Q } (startD N ds) M
theorem log2_mul_lt {i j : Int} {x y z : Nat} (hi : i.natAbs.log2 < x) (hj : j.natAbs.log2 < y) (h : x + y ≤ z) : (i * j).natAbs.log2 < z := by
  rw [Int.natAbs_mul]
  have := log_mul hi hj
  omega
theorem vcPlus {iR : Nat} {a b : Str} (h : sp iR = spRatio) : Vc sp (cPlus iR) [a, b] spPlus := by
  rintro ds M Q R ⟨q, r, rfl, hq, hr, k⟩
  unfold cPlus startD
  refine vs_cons ?_
  simp only [wpS, wpE, wpEs, wDrop, wRet, wRetN, wSet, wSetT, wPar, wStI, wVar, wLit, wBin, wUn, wCons, wNil, wTup, wLst, wIsN, wCh2, wSl, wpoS, wpoN, wCallF, wCall, wMth, Bo.op, Co.op, Bf.op, Mn.op, oAdd, oSub, oMul, oFdiv, oMod, oPow, oLt, oLe, oGt, oGe, oCmp, isB, isI, uNeg, D.nrm, bAbs, ixD_num, ixD_den, nrm_rD, wNext, wBrk, wCnt, wRetN, setAll, wFor, wpIk, wiV, wiR1, wiR2, Tn.tgt, Tn.is, wAnd, wOr, wNot, wIf, wIfS, List.getElem?_cons_zero, List.getElem?_cons_succ, List.set_cons_zero, List.set_cons_succ, List.map_cons, List.map_nil, List.length_cons, List.length_nil, List.cons_append, List.nil_append, List.append_nil, List.replicate, reduceIte, Bool.false_eq_true, Nat.zero_add, Nat.reduceAdd, Nat.reduceSub, Int.cast_ofNat_Int, Option.isSome_some, Option.isSome_none, reduceCtorEq, h]
  refine ⟨hq.nd hr, hr.nd hq, hq.dd hr, _, _, rfl, dd_pos q r, log2_mul_lt hq.d' hr.d' (by decide), ?_⟩
  rw [q_add]
  exact k
theorem vcMinus {iR : Nat} {a b : Str} (h : sp iR = spRatio) : Vc sp (cMinus iR) [a, b] spMinus := by
  rintro ds M Q R ⟨q, r, rfl, hq, hr, k⟩
  unfold cMinus startD
  refine vs_cons ?_
  simp only [wpS, wpE, wpEs, wDrop, wRet, wRetN, wSet, wSetT, wPar, wStI, wVar, wLit, wBin, wUn, wCons, wNil, wTup, wLst, wIsN, wCh2, wSl, wpoS, wpoN, wCallF, wCall, wMth, Bo.op, Co.op, Bf.op, Mn.op, oAdd, oSub, oMul, oFdiv, oMod, oPow, oLt, oLe, oGt, oGe, oCmp, isB, isI, uNeg, D.nrm, bAbs, ixD_num, ixD_den, nrm_rD, wNext, wBrk, wCnt, wRetN, setAll, wFor, wpIk, wiV, wiR1, wiR2, Tn.tgt, Tn.is, wAnd, wOr, wNot, wIf, wIfS, List.getElem?_cons_zero, List.getElem?_cons_succ, List.set_cons_zero, List.set_cons_succ, List.map_cons, List.map_nil, List.length_cons, List.length_nil, List.cons_append, List.nil_append, List.append_nil, List.replicate, reduceIte, Bool.false_eq_true, Nat.zero_add, Nat.reduceAdd, Nat.reduceSub, Int.cast_ofNat_Int, Option.isSome_some, Option.isSome_none, reduceCtorEq, h]
  refine ⟨hq.nd hr, hr.nd hq, hq.dd hr, _, _, rfl, dd_pos q r, log2_mul_lt hq.d' hr.d' (by decide), ?_⟩
  rw [q_sub]
  exact k
theorem vcTimes {iR : Nat} {a b : Str} (h : sp iR = spRatio) : Vc sp (cTimes iR) [a, b] spTimes := by
  rintro ds M Q R ⟨q, r, rfl, hq, hr, k⟩
  unfold cTimes startD
  refine vs_cons ?_
  simp only [wpS, wpE, wpEs, wDrop, wRet, wRetN, wSet, wSetT, wPar, wStI, wVar, wLit, wBin, wUn, wCons, wNil, wTup, wLst, wIsN, wCh2, wSl, wpoS, wpoN, wCallF, wCall, wMth, Bo.op, Co.op, Bf.op, Mn.op, oAdd, oSub, oMul, oFdiv, oMod, oPow, oLt, oLe, oGt, oGe, oCmp, isB, isI, uNeg, D.nrm, bAbs, ixD_num, ixD_den, nrm_rD, wNext, wBrk, wCnt, wRetN, setAll, wFor, wpIk, wiV, wiR1, wiR2, Tn.tgt, Tn.is, wAnd, wOr, wNot, wIf, wIfS, List.getElem?_cons_zero, List.getElem?_cons_succ, List.set_cons_zero, List.set_cons_succ, List.map_cons, List.map_nil, List.length_cons, List.length_nil, List.cons_append, List.nil_append, List.append_nil, List.replicate, reduceIte, Bool.false_eq_true, Nat.zero_add, Nat.reduceAdd, Nat.reduceSub, Int.cast_ofNat_Int, Option.isSome_some, Option.isSome_none, reduceCtorEq, h]
  refine ⟨hq.nn hr, hq.dd hr, _, _, rfl, dd_pos q r, log2_mul_lt hq.d' hr.d' (by decide), ?_⟩
  rw [q_mul]
  exact k
theorem vcOver {iR : Nat} {a b : Str} (h : sp iR = spRatio) : Vc sp (cOver iR) [a, b] spOver := by
  rintro ds M Q R ⟨q, r, rfl, hq, hr, pr, k⟩
  unfold cOver startD
  refine vs_cons ?_
  simp only [wpS, wpE, wpEs, wDrop, wRet, wRetN, wSet, wSetT, wPar, wStI, wVar, wLit, wBin, wUn, wCons, wNil, wTup, wLst, wIsN, wCh2, wSl, wpoS, wpoN, wCallF, wCall, wMth, Bo.op, Co.op, Bf.op, Mn.op, oAdd, oSub, oMul, oFdiv, oMod, oPow, oLt, oLe, oGt, oGe, oCmp, isB, isI, uNeg, D.nrm, bAbs, ixD_num, ixD_den, nrm_rD, wNext, wBrk, wCnt, wRetN, setAll, wFor, wpIk, wiV, wiR1, wiR2, Tn.tgt, Tn.is, wAnd, wOr, wNot, wIf, wIfS, List.getElem?_cons_zero, List.getElem?_cons_succ, List.set_cons_zero, List.set_cons_succ, List.map_cons, List.map_nil, List.length_cons, List.length_nil, List.cons_append, List.nil_append, List.append_nil, List.replicate, reduceIte, Bool.false_eq_true, Nat.zero_add, Nat.reduceAdd, Nat.reduceSub, Int.cast_ofNat_Int, Option.isSome_some, Option.isSome_none, reduceCtorEq, h]
  refine ⟨hq.nd hr, hq.dn hr, _, _, rfl, dn_pos pr, log2_mul_lt hq.d' hr.n (by decide), ?_⟩
  rw [q_div]
  exact k
theorem vcLess {a b : Str} : Vc sp cLess [a, b] spLess := by
  rintro ds M Q R ⟨q, r, rfl, hq, hr, k⟩
  unfold cLess startD
  refine vs_cons ?_
  simp only [wpS, wpE, wpEs, wDrop, wRet, wRetN, wSet, wSetT, wPar, wStI, wVar, wLit, wBin, wUn, wCons, wNil, wTup, wLst, wIsN, wCh2, wSl, wpoS, wpoN, wCallF, wCall, wMth, Bo.op, Co.op, Bf.op, Mn.op, oAdd, oSub, oMul, oFdiv, oMod, oPow, oLt, oLe, oGt, oGe, oCmp, isB, isI, uNeg, D.nrm, bAbs, ixD_num, ixD_den, nrm_rD, wNext, wBrk, wCnt, wRetN, setAll, wFor, wpIk, wiV, wiR1, wiR2, Tn.tgt, Tn.is, wAnd, wOr, wNot, wIf, wIfS, List.getElem?_cons_zero, List.getElem?_cons_succ, List.set_cons_zero, List.set_cons_succ, List.map_cons, List.map_nil, List.length_cons, List.length_nil, List.cons_append, List.nil_append, List.append_nil, List.replicate, reduceIte, Bool.false_eq_true, Nat.zero_add, Nat.reduceAdd, Nat.reduceSub, Int.cast_ofNat_Int, Option.isSome_some, Option.isSome_none, reduceCtorEq]
  refine ⟨hq.nd hr, hr.nd hq, ?_⟩
  rw [← decide_eq_decide.mpr (Rat.lt_iff q r)]
  exact k
theorem shaped_int (i : Int) : SeqAt.shaped (.int i) = true := rfl
theorem eqv_int (i j : Int) : PyData.eqv (.int i) (.int j) = decide (i = j) := by
  simp only [PyData.eqv]
  by_cases h : i = j
  · subst h; simp
  · rw [decide_eq_false h]; exact beq_eq_false_iff_ne.mpr h
theorem eq_int {i j : Int} {M : MH} {Q : Pt} : oEq (.int i) (.int j) M Q = Q (.bl (decide (i = j))) M := by
  show ((SeqAt.shaped (.int i) = true ∧ SeqAt.shaped (.int j) = true) ∧ _) = _
  simp only [shaped_int, true_and, and_self, eqv_int, Bool.false_eq_true, if_false]
theorem ne_int {i j : Int} {M : MH} {Q : Pt} : oNe (.int i) (.int j) M Q = Q (.bl (decide (i ≠ j))) M := by
  show ((SeqAt.shaped (.int i) = true ∧ SeqAt.shaped (.int j) = true) ∧ _) = _
  simp only [shaped_int, true_and, and_self, eqv_int, if_true, decide_not]
theorem vcGcd {s1 s2 : Str} : Vc sp cGcd [s1, s2] spGcd := by
  rintro ds M Q R ⟨m, n, rfl, k⟩
  unfold cGcd startD
  refine vs_cons ?_
  simp only [wpS, wWhile]
  refine ⟨fun k ρ M' => ∃ a b : Nat, b = k ∧ ρ = [some (.int a), some (.int b)] ∧ Nat.gcd a b = Nat.gcd m n ∧ M' = M, ⟨n, m, n, rfl, rfl, rfl, rfl⟩, ?_⟩
  rintro x ρ M' ⟨a, b, ex, rfl, e, rfl⟩
  subst ex
  simp only [wpS, wpE, wpEs, wDrop, wRet, wRetN, wSet, wSetT, wPar, wStI, wVar, wLit, wBin, wUn, wCons, wNil, wTup, wLst, wIsN, wCh2, wSl, wpoS, wpoN, wCallF, wCall, wMth, Bo.op, Co.op, Bf.op, Mn.op, oAdd, oSub, oMul, oFdiv, oMod, oPow, oLt, oLe, oGt, oGe, oCmp, isB, isI, uNeg, D.nrm, bAbs, ixD_num, ixD_den, nrm_rD, wNext, wBrk, wCnt, wRetN, setAll, wFor, wpIk, wiV, wiR1, wiR2, Tn.tgt, Tn.is, wAnd, wOr, wNot, wIf, wIfS, List.getElem?_cons_zero, List.getElem?_cons_succ, List.set_cons_zero, List.set_cons_succ, List.map_cons, List.map_nil, List.length_cons, List.length_nil, List.cons_append, List.nil_append, List.append_nil, List.replicate, reduceIte, Bool.false_eq_true, Nat.zero_add, Nat.reduceAdd, Nat.reduceSub, Int.cast_ofNat_Int, Option.isSome_some, Option.isSome_none, reduceCtorEq, ne_int]
  split
  · rename_i hb
    have hb : 0 < b := by have := of_decide_eq_true hb; omega
    refine vs_cons ?_
    simp only [wpS, wpE, wpEs, wDrop, wRet, wRetN, wSet, wSetT, wPar, wStI, wVar, wLit, wBin, wUn, wCons, wNil, wTup, wLst, wIsN, wCh2, wSl, wpoS, wpoN, wCallF, wCall, wMth, Bo.op, Co.op, Bf.op, Mn.op, oAdd, oSub, oMul, oFdiv, oMod, oPow, oLt, oLe, oGt, oGe, oCmp, isB, isI, uNeg, D.nrm, bAbs, ixD_num, ixD_den, nrm_rD, wNext, wBrk, wCnt, wRetN, setAll, wFor, wpIk, wiV, wiR1, wiR2, Tn.tgt, Tn.is, wAnd, wOr, wNot, wIf, wIfS, List.getElem?_cons_zero, List.getElem?_cons_succ, List.set_cons_zero, List.set_cons_succ, List.map_cons, List.map_nil, List.length_cons, List.length_nil, List.cons_append, List.nil_append, List.append_nil, List.replicate, reduceIte, Bool.false_eq_true, Nat.zero_add, Nat.reduceAdd, Nat.reduceSub, Int.cast_ofNat_Int, Option.isSome_some, Option.isSome_none, reduceCtorEq]
    refine ⟨by omega, vs_nil ⟨a % b, Nat.mod_lt _ hb, b, a % b, rfl, by rw [Int.natCast_emod], ?_, rfl⟩⟩
    rw [gcd_step hb, e]
  · rename_i hb
    have hb : b = 0 := by
      have : ¬ ((b : Int) ≠ 0) := fun z => hb (decide_eq_true z)
      omega
    refine vs_cons ?_
    simp only [wpS, wpE, wpEs, wDrop, wRet, wRetN, wSet, wSetT, wPar, wStI, wVar, wLit, wBin, wUn, wCons, wNil, wTup, wLst, wIsN, wCh2, wSl, wpoS, wpoN, wCallF, wCall, wMth, Bo.op, Co.op, Bf.op, Mn.op, oAdd, oSub, oMul, oFdiv, oMod, oPow, oLt, oLe, oGt, oGe, oCmp, isB, isI, uNeg, D.nrm, bAbs, ixD_num, ixD_den, nrm_rD, wNext, wBrk, wCnt, wRetN, setAll, wFor, wpIk, wiV, wiR1, wiR2, Tn.tgt, Tn.is, wAnd, wOr, wNot, wIf, wIfS, List.getElem?_cons_zero, List.getElem?_cons_succ, List.set_cons_zero, List.set_cons_succ, List.map_cons, List.map_nil, List.length_cons, List.length_nil, List.cons_append, List.nil_append, List.append_nil, List.replicate, reduceIte, Bool.false_eq_true, Nat.zero_add, Nat.reduceAdd, Nat.reduceSub, Int.cast_ofNat_Int, Option.isSome_some, Option.isSome_none, reduceCtorEq]
    subst hb
    rw [Nat.gcd_zero_right] at e
    rw [e]; exact k
theorem cdiv_gcd {t b : Int} (hb : 0 < b) (h : b.natAbs.log2 < 9000) (t' : Int) : CDivW t' (Nat.gcd t.natAbs b.natAbs : Nat) := by
  have p : 0 < b.natAbs := by omega
  have g := Nat.gcd_pos_of_pos_right t.natAbs p
  refine ⟨by exact_mod_cast g, ?_⟩
  rw [Int.natAbs_natCast]
  rw [Nat.log2_lt (by omega)] at h ⊢
  exact Nat.lt_of_le_of_lt (Nat.le_of_dvd p (Nat.gcd_dvd_right _ _)) h
theorem vcRatioL {iG : Nat} {a b c : Str} (h : sp iG = spGcd) : Vc sp (cRatioL iG) [a, b, c] spRatio := by
  rintro ds M Q R ⟨t, b, rfl, hb, hz, k⟩
  unfold cRatioL startD
  refine vs_cons ?_
  simp only [wpS, wpE, wpEs, wDrop, wRet, wRetN, wSet, wSetT, wPar, wStI, wVar, wLit, wBin, wUn, wCons, wNil, wTup, wLst, wIsN, wCh2, wSl, wpoS, wpoN, wCallF, wCall, wMth, Bo.op, Co.op, Bf.op, Mn.op, oAdd, oSub, oMul, oFdiv, oMod, oPow, oLt, oLe, oGt, oGe, oCmp, isB, isI, uNeg, D.nrm, bAbs, ixD_num, ixD_den, nrm_rD, wNext, wBrk, wCnt, wRetN, setAll, wFor, wpIk, wiV, wiR1, wiR2, Tn.tgt, Tn.is, wAnd, wOr, wNot, wIf, wIfS, List.getElem?_cons_zero, List.getElem?_cons_succ, List.set_cons_zero, List.set_cons_succ, List.map_cons, List.map_nil, List.length_cons, List.length_nil, List.cons_append, List.nil_append, List.append_nil, List.replicate, reduceIte, Bool.false_eq_true, Nat.zero_add, Nat.reduceAdd, Nat.reduceSub, Int.cast_ofNat_Int, Option.isSome_some, Option.isSome_none, reduceCtorEq, h, abs_nat]
  refine ⟨_, _, rfl, ?_⟩
  refine vs_cons ?_
  simp only [wpS, wpE, wpEs, wDrop, wRet, wRetN, wSet, wSetT, wPar, wStI, wVar, wLit, wBin, wUn, wCons, wNil, wTup, wLst, wIsN, wCh2, wSl, wpoS, wpoN, wCallF, wCall, wMth, Bo.op, Co.op, Bf.op, Mn.op, oAdd, oSub, oMul, oFdiv, oMod, oPow, oLt, oLe, oGt, oGe, oCmp, isB, isI, uNeg, D.nrm, bAbs, ixD_num, ixD_den, nrm_rD, wNext, wBrk, wCnt, wRetN, setAll, wFor, wpIk, wiV, wiR1, wiR2, Tn.tgt, Tn.is, wAnd, wOr, wNot, wIf, wIfS, List.getElem?_cons_zero, List.getElem?_cons_succ, List.set_cons_zero, List.set_cons_succ, List.map_cons, List.map_nil, List.length_cons, List.length_nil, List.cons_append, List.nil_append, List.append_nil, List.replicate, reduceIte, Bool.false_eq_true, Nat.zero_add, Nat.reduceAdd, Nat.reduceSub, Int.cast_ofNat_Int, Option.isSome_some, Option.isSome_none, reduceCtorEq]
  rw [if_neg (by simp; omega)]
  refine vs_nil ?_
  refine vs_cons ?_
  simp only [wpS, wpE, wpEs, wDrop, wRet, wRetN, wSet, wSetT, wPar, wStI, wVar, wLit, wBin, wUn, wCons, wNil, wTup, wLst, wIsN, wCh2, wSl, wpoS, wpoN, wCallF, wCall, wMth, Bo.op, Co.op, Bf.op, Mn.op, oAdd, oSub, oMul, oFdiv, oMod, oPow, oLt, oLe, oGt, oGe, oCmp, isB, isI, uNeg, D.nrm, bAbs, ixD_num, ixD_den, nrm_rD, wNext, wBrk, wCnt, wRetN, setAll, wFor, wpIk, wiV, wiR1, wiR2, Tn.tgt, Tn.is, wAnd, wOr, wNot, wIf, wIfS, List.getElem?_cons_zero, List.getElem?_cons_succ, List.set_cons_zero, List.set_cons_succ, List.map_cons, List.map_nil, List.length_cons, List.length_nil, List.cons_append, List.nil_append, List.append_nil, List.replicate, reduceIte, Bool.false_eq_true, Nat.zero_add, Nat.reduceAdd, Nat.reduceSub, Int.cast_ofNat_Int, Option.isSome_some, Option.isSome_none, reduceCtorEq]
  refine ⟨cdiv_gcd hb hz _, cdiv_gcd hb hz _, by decide, ?_⟩
  rw [rD_divInt hb] at k
  exact k
theorem vcRatio {iG : Nat} {a b c : Str} (h : sp iG = spGcd) : Vc sp (cRatio iG) [a, b, c] spRatio := by
  rintro ds M Q R ⟨t, b, rfl, hb, hz, k⟩
  unfold cRatio startD
  refine vs_cons ?_
  simp only [wpS, wpE, wpEs, wDrop, wRet, wRetN, wSet, wSetT, wPar, wStI, wVar, wLit, wBin, wUn, wCons, wNil, wTup, wLst, wIsN, wCh2, wSl, wpoS, wpoN, wCallF, wCall, wMth, Bo.op, Co.op, Bf.op, Mn.op, oAdd, oSub, oMul, oFdiv, oMod, oPow, oLt, oLe, oGt, oGe, oCmp, isB, isI, uNeg, D.nrm, bAbs, ixD_num, ixD_den, nrm_rD, wNext, wBrk, wCnt, wRetN, setAll, wFor, wpIk, wiV, wiR1, wiR2, Tn.tgt, Tn.is, wAnd, wOr, wNot, wIf, wIfS, List.getElem?_cons_zero, List.getElem?_cons_succ, List.set_cons_zero, List.set_cons_succ, List.map_cons, List.map_nil, List.length_cons, List.length_nil, List.cons_append, List.nil_append, List.append_nil, List.replicate, reduceIte, Bool.false_eq_true, Nat.zero_add, Nat.reduceAdd, Nat.reduceSub, Int.cast_ofNat_Int, Option.isSome_some, Option.isSome_none, reduceCtorEq, eq_int]
  rw [if_neg (by simp; omega)]
  refine vs_nil ?_
  refine vs_cons ?_
  simp only [wpS, wpE, wpEs, wDrop, wRet, wRetN, wSet, wSetT, wPar, wStI, wVar, wLit, wBin, wUn, wCons, wNil, wTup, wLst, wIsN, wCh2, wSl, wpoS, wpoN, wCallF, wCall, wMth, Bo.op, Co.op, Bf.op, Mn.op, oAdd, oSub, oMul, oFdiv, oMod, oPow, oLt, oLe, oGt, oGe, oCmp, isB, isI, uNeg, D.nrm, bAbs, ixD_num, ixD_den, nrm_rD, wNext, wBrk, wCnt, wRetN, setAll, wFor, wpIk, wiV, wiR1, wiR2, Tn.tgt, Tn.is, wAnd, wOr, wNot, wIf, wIfS, List.getElem?_cons_zero, List.getElem?_cons_succ, List.set_cons_zero, List.set_cons_succ, List.map_cons, List.map_nil, List.length_cons, List.length_nil, List.cons_append, List.nil_append, List.append_nil, List.replicate, reduceIte, Bool.false_eq_true, Nat.zero_add, Nat.reduceAdd, Nat.reduceSub, Int.cast_ofNat_Int, Option.isSome_some, Option.isSome_none, reduceCtorEq]
  rw [if_neg (by simp; omega)]
  refine vs_nil ?_
  refine vs_cons ?_
  simp only [wpS, wpE, wpEs, wDrop, wRet, wRetN, wSet, wSetT, wPar, wStI, wVar, wLit, wBin, wUn, wCons, wNil, wTup, wLst, wIsN, wCh2, wSl, wpoS, wpoN, wCallF, wCall, wMth, Bo.op, Co.op, Bf.op, Mn.op, oAdd, oSub, oMul, oFdiv, oMod, oPow, oLt, oLe, oGt, oGe, oCmp, isB, isI, uNeg, D.nrm, bAbs, ixD_num, ixD_den, nrm_rD, wNext, wBrk, wCnt, wRetN, setAll, wFor, wpIk, wiV, wiR1, wiR2, Tn.tgt, Tn.is, wAnd, wOr, wNot, wIf, wIfS, List.getElem?_cons_zero, List.getElem?_cons_succ, List.set_cons_zero, List.set_cons_succ, List.map_cons, List.map_nil, List.length_cons, List.length_nil, List.cons_append, List.nil_append, List.append_nil, List.replicate, reduceIte, Bool.false_eq_true, Nat.zero_add, Nat.reduceAdd, Nat.reduceSub, Int.cast_ofNat_Int, Option.isSome_some, Option.isSome_none, reduceCtorEq, h, abs_nat]
  refine ⟨t.natAbs, b.natAbs, ?_, ?_⟩
  · have : ((b.natAbs : Nat) : Int) = b := by omega
    rw [this]
  refine vs_cons ?_
  simp only [wpS, wpE, wpEs, wDrop, wRet, wRetN, wSet, wSetT, wPar, wStI, wVar, wLit, wBin, wUn, wCons, wNil, wTup, wLst, wIsN, wCh2, wSl, wpoS, wpoN, wCallF, wCall, wMth, Bo.op, Co.op, Bf.op, Mn.op, oAdd, oSub, oMul, oFdiv, oMod, oPow, oLt, oLe, oGt, oGe, oCmp, isB, isI, uNeg, D.nrm, bAbs, ixD_num, ixD_den, nrm_rD, wNext, wBrk, wCnt, wRetN, setAll, wFor, wpIk, wiV, wiR1, wiR2, Tn.tgt, Tn.is, wAnd, wOr, wNot, wIf, wIfS, List.getElem?_cons_zero, List.getElem?_cons_succ, List.set_cons_zero, List.set_cons_succ, List.map_cons, List.map_nil, List.length_cons, List.length_nil, List.cons_append, List.nil_append, List.append_nil, List.replicate, reduceIte, Bool.false_eq_true, Nat.zero_add, Nat.reduceAdd, Nat.reduceSub, Int.cast_ofNat_Int, Option.isSome_some, Option.isSome_none, reduceCtorEq]
  refine ⟨cdiv_gcd hb hz _, cdiv_gcd hb hz _, by decide, ?_⟩
  rw [rD_divInt hb] at k
  exact k
end
end Pz


set_option Elab.async false
set_option linter.all false
set_option autoImplicit false
set_option maxRecDepth 100000
set_option maxHeartbeats 4000000
/-! How great ratios grow; draws from a tape. -/
namespace Pz
open PySem PySem.Spec L2
open PyProof.Rows hiding St

theorem den_dvd {q : Rat} {m : Nat} (hm : 0 < m) : q.den ∣ m ↔ ∃ z : Int, q * (m : Rat) = z := by
  constructor
  · rintro ⟨k, rfl⟩
    refine ⟨q.num * k, ?_⟩
    rw [Rat.natCast_mul, ← Rat.mul_assoc, Rat.intCast_mul]
    congr 1
    have h : q * q.den = q.num := by
      have h1 : q = (q.num : Rat) / ((q.den : Nat) : Rat) := by rw [← Rat.mkRat_eq_div, Rat.mkRat_self]
      have h2 : ((q.den : Nat) : Rat) ≠ 0 := by
        intro z
        have := Rat.natCast_pos.mpr q.den_pos
        rw [z] at this
        exact absurd this Rat.lt_irrefl
      conv => lhs; lhs; rw [h1]
      exact Rat.div_mul_cancel h2
    exact h
  · rintro ⟨z, h⟩
    have h2 : ((m : Nat) : Rat) ≠ 0 := by
      intro y
      have := Rat.natCast_pos.mpr hm
      rw [y] at this
      exact absurd this Rat.lt_irrefl
    have h1 : q = Rat.divInt z m := by
      rw [Rat.divInt_eq_div, ← h]
      exact (Rat.mul_div_cancel h2).symm
    rw [h1, Rat.den_divInt]
    split
    · exact ⟨m, by simp⟩
    · refine ⟨Int.gcd m z, ?_⟩
      rw [Nat.div_mul_cancel]
      · simp
      · exact Int.gcd_dvd_natAbs_left _ _
theorem den_add_dvd {q r : Rat} {m : Nat} (hm : 0 < m) (hq : q.den ∣ m) (hr : r.den ∣ m) : (q + r).den ∣ m := by
  obtain ⟨z, h1⟩ := (den_dvd hm).mp hq
  obtain ⟨w, h2⟩ := (den_dvd hm).mp hr
  exact (den_dvd hm).mpr ⟨z + w, by rw [Rat.add_mul, h1, h2, Rat.intCast_add]⟩
theorem den_sub_dvd {q r : Rat} {m : Nat} (hm : 0 < m) (hq : q.den ∣ m) (hr : r.den ∣ m) : (q - r).den ∣ m := by
  rw [Rat.sub_eq_add_neg]
  exact den_add_dvd hm hq (by rw [Rat.neg_den]; exact hr)
theorem den_mul_dvd {q r : Rat} {m n : Nat} (hm : 0 < m) (hn : 0 < n) (hq : q.den ∣ m) (hr : r.den ∣ n) : (q * r).den ∣ m * n := by
  obtain ⟨z, h1⟩ := (den_dvd hm).mp hq
  obtain ⟨w, h2⟩ := (den_dvd hn).mp hr
  refine (den_dvd (Nat.mul_pos hm hn)).mpr ⟨z * w, ?_⟩
  rw [Rat.natCast_mul, Rat.intCast_mul, ← h1, ← h2]
  grind
/-- the denominator goes into m, between -b and b -/
structure Ft (m b : Nat) (q : Rat) : Prop where
  d : q.den ∣ m
  lo : -(b : Rat) ≤ q
  hi : q ≤ (b : Rat)
theorem Ft.add {m b c : Nat} {q r : Rat} (hm : 0 < m) (h : Ft m b q) (k : Ft m c r) : Ft m (b + c) (q + r) := by
  refine ⟨den_add_dvd hm h.d k.d, ?_, ?_⟩
  · have := h.lo; have := k.lo; rw [Rat.natCast_add]; grind
  · have := h.hi; have := k.hi; rw [Rat.natCast_add]; grind
theorem Ft.neg {m b : Nat} {q : Rat} (h : Ft m b q) : Ft m b (-q) := ⟨h.d, by have := h.hi; grind, by have := h.lo; grind⟩
theorem Ft.sub {m b c : Nat} {q r : Rat} (hm : 0 < m) (h : Ft m b q) (k : Ft m c r) : Ft m (b + c) (q - r) := by
  rw [Rat.sub_eq_add_neg]; exact h.add hm k.neg
theorem mul_le_of {q r b c : Rat} (h1 : -b ≤ q) (h2 : q ≤ b) (k1 : -c ≤ r) (k2 : r ≤ c) (hb : 0 ≤ b) (hc : 0 ≤ c) : q * r ≤ b * c := by
  have x1 : q * r ≤ b * c := by
    rcases Rat.le_total (a := 0) (b := r) with h | h
    · have a1 := Rat.mul_le_mul_of_nonneg_right h2 h
      have a2 := Rat.mul_le_mul_of_nonneg_left k2 hb
      grind
    · have a1 := Rat.mul_le_mul_of_nonneg_right (c := -r) (show -q ≤ b by grind) (by grind)
      have a2 := Rat.mul_le_mul_of_nonneg_left (c := b) (show -r ≤ c by grind) hb
      grind
  exact x1
theorem Ft.mul {m n b c : Nat} {q r : Rat} (hm : 0 < m) (hn : 0 < n) (h : Ft m b q) (k : Ft n c r) : Ft (m * n) (b * c) (q * r) := by
  have hb : (0 : Rat) ≤ (b : Rat) := Rat.natCast_nonneg
  have hc : (0 : Rat) ≤ (c : Rat) := Rat.natCast_nonneg
  refine ⟨den_mul_dvd hm hn h.d k.d, ?_, ?_⟩
  · have := mul_le_of (q := -q) (r := r) (b := b) (c := c) (by have := h.hi; grind) (by have := h.lo; grind) k.lo k.hi hb hc
    rw [Rat.natCast_mul]; grind
  · rw [Rat.natCast_mul]; exact mul_le_of h.lo h.hi k.lo k.hi hb hc
theorem Ft.mono {m n b c : Nat} {q : Rat} (h : Ft m b q) (hm : m ∣ n) (hb : b ≤ c) : Ft n c q := by
  have : (b : Rat) ≤ (c : Rat) := Rat.natCast_le_natCast.mpr hb
  exact ⟨Nat.dvd_trans h.d hm, by have := h.lo; grind, by have := h.hi; grind⟩
theorem Ft.num {m b : Nat} {q : Rat} (h : Ft m b q) : q.num.natAbs ≤ b * q.den := by
  have a := (Rat.le_iff _ _).mp h.lo
  have c := (Rat.le_iff _ _).mp h.hi
  rw [Rat.neg_num, Rat.neg_den, Rat.num_natCast, Rat.den_natCast] at a
  rw [Rat.num_natCast, Rat.den_natCast] at c
  have e : ((b * q.den : Nat) : Int) = (b : Int) * (q.den : Int) := by simp
  have e2 : (-(b : Int)) * (q.den : Int) = -((b : Int) * (q.den : Int)) := Int.neg_mul _ _
  rw [e2] at a
  omega
theorem Ft.ok {m b : Nat} {q : Rat} (h : Ft m b q) (hm : 0 < m) (hb : m < big) (hz : b * m < big) : Ok q := by
  have hd := Nat.le_of_dvd hm h.d
  refine ⟨Nat.lt_of_le_of_lt h.num (Nat.lt_of_le_of_lt (Nat.mul_le_mul_left _ hd) hz), Nat.lt_of_le_of_lt hd hb⟩
theorem Ft.int (i : Nat) : Ft 1 i (i : Rat) := ⟨⟨1, rfl⟩, by have : (0 : Rat) ≤ (i : Rat) := Rat.natCast_nonneg; grind, Rat.le_refl⟩
theorem Ft.zero (m b : Nat) : Ft m b 0 := ⟨⟨m, by simp⟩, by have : (0 : Rat) ≤ (b : Rat) := Rat.natCast_nonneg; grind, Rat.natCast_nonneg⟩
/-- a quotient -/
theorem Ft.div_den {m b : Nat} {q r : Rat} (hm : 0 < m) (h : q.den ∣ m) (k : Ft m b r) (pr : 0 < r) : ∃ w : Nat, 0 < w ∧ r * (m : Rat) = (w : Rat) ∧ w ≤ b * m ∧ (q / r).den ∣ w := by
  obtain ⟨z, h1⟩ := (den_dvd hm).mp h
  obtain ⟨w, h2⟩ := (den_dvd hm).mp k.d
  have pm : (0 : Rat) < (m : Rat) := Rat.natCast_pos.mpr hm
  have pw : (0 : Rat) < (w : Rat) := by rw [← h2]; exact Rat.mul_pos pr pm
  have pw' : 0 < w := Rat.intCast_pos.mp pw
  have ew : ((w.toNat : Nat) : Int) = w := by omega
  have ewr : ((w.toNat : Nat) : Rat) = (w : Rat) := by
    have : (((w.toNat : Nat) : Int) : Rat) = (w : Rat) := by rw [ew]
    rw [← this, Rat.intCast_natCast]
  refine ⟨w.toNat, by omega, by rw [h2, ewr], ?_, ?_⟩
  · have : (w : Rat) ≤ ((b * m : Nat) : Rat) := by
      rw [← h2, Rat.natCast_mul]
      exact Rat.mul_le_mul_of_nonneg_right k.hi (Rat.le_of_lt pm)
    rw [← ewr] at this
    exact Rat.natCast_le_natCast.mp this
  · refine (den_dvd (by omega)).mpr ⟨z, ?_⟩
    have nr : r ≠ 0 := fun y => by rw [y] at pr; exact absurd pr Rat.lt_irrefl
    rw [ewr, ← h2, ← h1, ← Rat.mul_assoc, Rat.div_mul_cancel nr]

/-! ### sums -/
def sumR (qs : List Rat) : Rat := qs.foldl (· + ·) 0
structure SumOk (qs : List Rat) (m b : Nat) : Prop where
  m0 : 0 < m
  ft : ∀ q ∈ qs, Ft m b q
  mb : m < big
  bb : qs.length * b * m < big
theorem one_mul_lt {n b m : Nat} (hn : 0 < n) (h : n * b * m < big) : b * m < big := by
  have : b * m ≤ n * b * m := by
    rw [Nat.mul_assoc]
    exact Nat.le_mul_of_pos_left _ hn
  omega

/-! ### draws -/
def tpD (b : Addr) (i j k : Int) : MO := .lst [.ref b, .int i, .int j, .int k]
/-- where a tape stands, and its script -/
structure Tp where
  a : Addr
  b : Addr
/-- a tape that n more draws may be made from -/
def Tape (M : MH) (t : Tp) (n : Nat) : Prop := ∃ (ns : List Int) (i j k : Int), t.a ≠ t.b ∧ M t.a = some (tpD t.b i j k) ∧ M t.b = some (.lst (ns.map .int)) ∧ 0 ≤ i ∧ i + n < 2 ^ 60 ∧ 0 ≤ j ∧ 0 ≤ k
theorem Tape.le {M : MH} {t : Tp} {n m : Nat} (h : Tape M t n) (e : m ≤ n) : Tape M t m := by
  obtain ⟨ns, i, j, k, h0, h1, h2, h3, h4, h5⟩ := h
  exact ⟨ns, i, j, k, h0, h1, h2, h3, by omega, h5⟩
theorem Tape.ne {t : Tp} {p : Addr} {M : MH} {n : Nat} (h : Tape M t n) (hp : M p = none) : p ≠ t.a := by
  obtain ⟨ns, i, j, k, n, h1, _⟩ := h
  rintro rfl; rw [h1] at hp; cases hp
theorem Tape.nb {t : Tp} {p : Addr} {M : MH} {n : Nat} (h : Tape M t n) (hp : M p = none) : p ≠ t.b := by
  obtain ⟨ns, i, j, k, n, h1, h2, _⟩ := h
  rintro rfl; rw [h2] at hp; cases hp
theorem Tape.set {t : Tp} {p : Addr} {M : MH} {o : MO} {n : Nat} (h : Tape M t n) (ha : p ≠ t.a) (hb : p ≠ t.b) : Tape (updM M p o) t n := by
  obtain ⟨ns, i, j, k, n, h1, h2, h3⟩ := h
  exact ⟨ns, i, j, k, n, (updM_ne (Ne.symm ha)).trans h1, (updM_ne (Ne.symm hb)).trans h2, h3⟩
theorem Tape.new {t : Tp} {p : Addr} {M : MH} {o : MO} {n : Nat} (h : Tape M t n) (hp : M p = none) : Tape (updM M p o) t n := h.set (h.ne hp) (h.nb hp)
structure Ext (tp : Tp) (n : Nat) (M M' : MH) : Prop where
  t : Tape M' tp n
  k : ∀ c o, c ≠ tp.a → M c = some o → M' c = some o
theorem Ext.refl {t : Tp} {M : MH} {n : Nat} (h : Tape M t n) : Ext t n M M := ⟨h, fun _ _ _ h => h⟩
theorem Ext.trans {t : Tp} {M M1 M2 : MH} {n m : Nat} (h : Ext t n M M1) (k : Ext t m M1 M2) : Ext t m M M2 := ⟨k.t, fun c o n e => k.k c o n (h.k c o n e)⟩
theorem Ext.le {t : Tp} {M M1 : MH} {n m : Nat} (h : Ext t n M M1) (e : m ≤ n) : Ext t m M M1 := ⟨h.t.le e, h.k⟩
theorem Ext.new {t : Tp} {p : Addr} {M M1 : MH} {o : MO} {n : Nat} (h : Ext t n M M1) (hp : M1 p = none) : Ext t n M (updM M1 p o) :=
  ⟨h.t.new hp, fun c u n e => by
    rw [updM_ne]; exact h.k c u n e
    rintro rfl; rw [h.k _ u n e] at hp; cases hp⟩
/-- what was made since may be written -/
theorem Ext.set {t : Tp} {p : Addr} {M M1 : MH} {o : MO} {n : Nat} (h : Ext t n M M1) (hp : M p = none) (ha : p ≠ t.a) (hb : p ≠ t.b) : Ext t n M (updM M1 p o) :=
  ⟨h.t.set ha hb, fun c u n e => by
    rw [updM_ne]; exact h.k c u n e
    rintro rfl; rw [hp] at e; cases e⟩
/-- a list that is not the tape is as it was -/
theorem Ext.get {t : Tp} {p : Addr} {M M1 : MH} {o : MO} {n : Nat} (h : Ext t n M M1) (ne : p ≠ t.a) (e : M p = some o) : M1 p = some o := h.k p o ne e
/-- what is free was free -/
theorem Ext.free {t : Tp} {p : Addr} {M M1 : MH} {n : Nat} (h : Ext t n M M1) (hp : M1 p = none) : M p = none := by
  cases e : M p with
  | none => rfl
  | some o =>
    by_cases ha : p = t.a
    · subst ha
      obtain ⟨ns, i, j, k, n, h1, _⟩ := h.t
      rw [h1] at hp; cases hp
    · rw [h.k _ o ha e] at hp; cases hp

def spTape : Spec := fun ds M Q _ => ∃ ns : List Int, ds = [.fz (ns.map .int)] ∧ ∀ t M', Tape M' t (2 ^ 50) → (∀ c o, M c = some o → M' c = some o) → Q (.ref t.a) M'
def spDraw : Spec := fun ds M Q _ => ∃ (t : Tp) (k n : Nat), ds = [.ref t.a, .int k] ∧ Tape M t (n + 1) ∧ 0 < k ∧ k.log2 < 9000 ∧ ∀ (j : Nat) M', j < k → Ext t n M M' → Q (.int j) M'
def cTape : List Sx := [.ret (.lst [.sl (.var 0) false true .nev (.lit (.int 63)), .lit (.int 0), .lit (.int 0), .lit (.int 0)])]
def cDraw : List Sx := [.set 2 (.ix (.var 0) (.lit (.int 0))), .set 3 (.ix (.var 0) (.lit (.int 1))), .stI (.var 0) (.lit (.int 1)) (.bin .add (.var 3) (.lit (.int 1))), .whl (.and_ (.cmp .eq (.ix (.var 0) (.lit (.int 2))) (.lit (.int 0))) (.cmp .lt (.ix (.var 0) (.lit (.int 3))) (.blt .len [.var 2]))) [.ife (.cmp .ge (.blt .abs [.ix (.var 2) (.ix (.var 0) (.lit (.int 3)))]) (.bin .pow (.lit (.int 10)) (.lit (.int 18)))) [.stI (.var 0) (.lit (.int 2)) (.blt .abs [.ix (.var 2) (.ix (.var 0) (.lit (.int 3)))])] [], .stI (.var 0) (.lit (.int 3)) (.bin .add (.ix (.var 0) (.lit (.int 3))) (.lit (.int 1)))], .ife (.cmp .gt (.ix (.var 0) (.lit (.int 2))) (.lit (.int 0))) [.set 4 (.ix (.var 0) (.lit (.int 2))), .stI (.var 0) (.lit (.int 2)) (.bin .fdiv (.var 4) (.var 1)), .ret (.bin .mod (.var 4) (.var 1))] [], .set 5 (.lit (.int 0)), .ife (.cmp .gt (.blt .len [.var 2]) (.lit (.int 0))) [.set 5 (.ix (.var 2) (.bin .mod (.var 3) (.blt .len [.var 2])))] [], .set 6 (.bin .mod (.bin .mul (.bin .add (.bin .mod (.var 5) (.lit (.int 1000003))) (.lit (.int 1))) (.bin .add (.bin .add (.bin .mul (.bin .mod (.var 3) (.lit (.int 997))) (.lit (.int 7919))) (.lit (.int 104729))) (.var 3))) (.lit (.int 1000033))), .set 6 (.bin .mod (.bin .add (.bin .add (.bin .mul (.var 6) (.var 6)) (.bin .mul (.lit (.int 3)) (.var 6))) (.var 3)) (.lit (.int 999983))), .ret (.bin .mod (.bin .mod (.bin .mul (.var 6) (.lit (.int 48271))) (.lit (.int 65537))) (.var 1))]

theorem ixL {a : Addr} {M : MH} {xs : List D} (h : M a = some (.lst xs)) (i : Int) (Q : Pt) : oIxD (.ref a) (.int i) M Q = match atI xs i with | some d => Q d M | _ => False := by
  show (match dicO M (.ref a) with | some kvs => _ | none => oIx (.ref a) (.int i) M Q) = _
  have e : dicO M (.ref a) = none := by
    show (match M a with | some (.dic ks) => some ks | some (.dicL ks) => some ks | _ => none) = none
    rw [h]
  rw [e]
  show (match M a with | some (.lst ds) => (match atI ds i with | some d => Q d M | _ => False) | _ => False) = _
  rw [h]
theorem ixTp {xs : List D} (i : Int) (M : MH) (Q : Pt) : oIxD (.tup xs) (.int i) M Q = match atI xs i with | some d => Q d M | _ => False := rfl
theorem ixTq {xs : List D} (i : Int) (M : MH) (Q : Pt) : oIxD (.ptup xs) (.int i) M Q = match atI xs i with | some d => Q d M | _ => False := rfl
theorem at0 {α : Type} {x : α} {r : List α} : atI (x :: r) 0 = some x := by
  unfold atI ixN
  rw [if_pos (by decide), if_pos (by simp only [List.length_cons]; omega)]; rfl
theorem at1 {α : Type} {x y : α} {r : List α} : atI (x :: y :: r) 1 = some y := by
  unfold atI ixN
  rw [if_pos (by decide), if_pos (by simp only [List.length_cons]; omega)]; rfl
theorem at2 {α : Type} {x y z : α} {r : List α} : atI (x :: y :: z :: r) 2 = some z := by
  unfold atI ixN
  rw [if_pos (by decide), if_pos (by simp only [List.length_cons]; omega)]; rfl
theorem at3 {α : Type} {x y z u : α} {r : List α} : atI (x :: y :: z :: u :: r) 3 = some u := by
  unfold atI ixN
  rw [if_pos (by decide), if_pos (by simp only [List.length_cons]; omega)]; rfl
theorem atN {α : Type} {xs : List α} {n : Nat} {x : α} (h : xs[n]? = some x) : atI xs (n : Int) = some x := by
  obtain ⟨h1, _⟩ := List.getElem?_eq_some_iff.mp h
  unfold atI ixN
  rw [if_pos (by omega), if_pos (by omega)]
  show xs[(n : Int).toNat]? = some x
  rw [Int.toNat_natCast]; exact h
theorem stL {a : Addr} {M : MH} {xs : List D} {n : Nat} (h : M a = some (.lst xs)) (hn : n < xs.length) (v : D) (Q : MH → Prop) : oStL (.ref a) (.int (n : Int)) v M Q = Q (updM M a (.lst (xs.set n v))) := by
  show (match M a with | some (.lst xs) => (match ixN xs.length (n : Int) with | some j => Q (updM M a (.lst (xs.set j v))) | none => False) | _ => False) = _
  rw [h]
  have : ixN xs.length (n : Int) = some n := by unfold ixN; rw [if_pos (by omega), if_pos (by omega), Int.toNat_natCast]
  simp only [this]
theorem lenL {a : Addr} {M : MH} {xs : List D} (h : M a = some (.lst xs)) (Q : Pt) : bLen [.ref a] M Q = Q (.int xs.length) M := by
  show (match (match M a with | some (.lst ds) => some ds | _ => none) with | some ds => Q (.int ds.length) M | none => False) = _
  rw [h]
theorem CPow.of10 {j : Int} (h0 : 0 ≤ j) (h1 : j ≤ 1000000) : CPow 10 j := ⟨h0, h1, by decide⟩
section
variable {sp : Nat → Spec} {M : MH} {Q : Pt} {R : XPt} {ds : List D}
theorem vcTape {s1 : Str} : Vc sp cTape [s1] spTape := by
  rintro ds M Q R ⟨ns, rfl, k⟩
  unfold cTape startD
  refine vs_cons ?_
  simp only [wpS, wpE, wpEs, wDrop, wRet, wRetN, wSet, wSetT, wPar, wStI, wVar, wLit, wBin, wUn, wCons, wNil, wTup, wLst, wIsN, wCh2, wSl, wpoS, wpoN, wCallF, wCall, wMth, Bo.op, Co.op, Bf.op, Mn.op, oAdd, oSub, oMul, oFdiv, oMod, oPow, oLt, oLe, oGt, oGe, oCmp, isB, isI, uNeg, D.nrm, bAbs, ixD_num, ixD_den, nrm_rD, wNext, wBrk, wCnt, wRetN, setAll, wFor, wpIk, wiV, wiR1, wiR2, Tn.tgt, Tn.is, wAnd, wOr, wNot, wIf, wIfS, List.getElem?_cons_zero, List.getElem?_cons_succ, List.set_cons_zero, List.set_cons_succ, List.map_cons, List.map_nil, List.length_cons, List.length_nil, List.cons_append, List.nil_append, List.append_nil, List.replicate, reduceIte, Bool.false_eq_true, Nat.zero_add, Nat.reduceAdd, Nat.reduceSub, Int.cast_ofNat_Int, Option.isSome_some, Option.isSome_none, reduceCtorEq, oSl]
  intro p hp
  refine ⟨by decide, fun a ha => ?_⟩
  have ne : a ≠ p := by rintro rfl; rw [updM_same] at ha; cases ha
  refine k ⟨a, p⟩ _ ⟨ns.take 63, 0, 0, 0, ne, updM_same, ?_, by decide, by decide, by decide, by decide⟩ fun c o e => ?_
  · rw [updM_ne (Ne.symm ne), updM_same]
    congr 2
    unfold cutD
    simp [HT.sIx, List.map_take]
  · rw [updM_ne, updM_ne]; exact e
    · rintro rfl; rw [hp] at e; cases e
    · rintro rfl; rw [updM_ne ne] at ha; rw [ha] at e; cases e


theorem ite_n {p q : Prop} [Decidable p] [Decidable q] {X Y : Prop} (h : ¬ (p ∧ q)) : (if p then (if q then X else Y) else Y) = Y := by
  by_cases hp : p
  · rw [if_pos hp, if_neg fun hq => h ⟨hp, hq⟩]
  · rw [if_neg hp]
theorem tpG0 {M : MH} {a b : Addr} {i j k : Int} (h : M a = some (tpD b i j k)) (Q : Pt) : oIxD (.ref a) (.int 0) M Q = Q (.ref b) M := by rw [ixL h, at0]
theorem tpG1 {M : MH} {a b : Addr} {i j k : Int} (h : M a = some (tpD b i j k)) (Q : Pt) : oIxD (.ref a) (.int 1) M Q = Q (.int i) M := by rw [ixL h, at1]
theorem tpG2 {M : MH} {a b : Addr} {i j k : Int} (h : M a = some (tpD b i j k)) (Q : Pt) : oIxD (.ref a) (.int 2) M Q = Q (.int j) M := by rw [ixL h, at2]
theorem tpG3 {M : MH} {a b : Addr} {i j k : Int} (h : M a = some (tpD b i j k)) (Q : Pt) : oIxD (.ref a) (.int 3) M Q = Q (.int k) M := by rw [ixL h, at3]
theorem tpS1 {M : MH} {a b : Addr} {i j k : Int} (h : M a = some (tpD b i j k)) (v : Int) (Q : MH → Prop) : oStL (.ref a) (.int 1) (.int v) M Q = Q (updM M a (tpD b v j k)) := stL (n := 1) h (by simp) _ _
theorem tpS2 {M : MH} {a b : Addr} {i j k : Int} (h : M a = some (tpD b i j k)) (v : Int) (Q : MH → Prop) : oStL (.ref a) (.int 2) (.int v) M Q = Q (updM M a (tpD b i v k)) := stL (n := 2) h (by simp) _ _
theorem tpS3 {M : MH} {a b : Addr} {i j k : Int} (h : M a = some (tpD b i j k)) (v : Int) (Q : MH → Prop) : oStL (.ref a) (.int 3) (.int v) M Q = Q (updM M a (tpD b i j v)) := stL (n := 3) h (by simp) _ _
theorem vcDraw {s1 s2 s3 s4 s5 s6 s7 : Str} : Vc sp cDraw [s1, s2, s3, s4, s5, s6, s7] spDraw := by
  rintro ds M Q R ⟨⟨a, b⟩, n, z, rfl, ⟨ns, i, j, k, hab, h1, h2, hi, hiz, hj, hk⟩, hn, hz, kk⟩
  simp only at hab h1 h2 ⊢
  unfold cDraw startD
  have dz : CDivW 0 (n : Int) := ⟨by omega, by rw [Int.natAbs_natCast]; exact hz⟩
  -- what the tape is at some time
  have fin : ∀ (M' : MH) (i' j' k' : Int), M' a = some (tpD b i' j' k') → (∀ c, c ≠ a → M' c = M c) → i' = i + 1 → 0 ≤ j' → 0 ≤ k' → ∀ m : Int, Q (.int (m % (n : Int))) M' := fun M' i' j' k' ha hc p1 p2 p3 m => by
    have e1 := Int.emod_nonneg m (show (n : Int) ≠ 0 by omega)
    have e2 := Int.emod_lt_of_pos m (show 0 < (n : Int) by omega)
    have e : ((m % (n : Int)).toNat : Int) = m % (n : Int) := by omega
    rw [← e]
    exact kk _ _ (by omega) ⟨⟨ns, i', j', k', hab, ha, by rw [hc b (Ne.symm hab)]; exact h2, by omega, by omega, p2, p3⟩, fun c o nc ec => by rw [hc c nc]; exact ec⟩
  refine vs_cons ?_
  simp only [wpS, wpE, wpEs, wDrop, wRet, wRetN, wSet, wSetT, wPar, wStI, wVar, wLit, wBin, wUn, wCons, wNil, wTup, wLst, wIsN, wCh2, wSl, wpoS, wpoN, wCallF, wCall, wMth, Bo.op, Co.op, Bf.op, Mn.op, oAdd, oSub, oMul, oFdiv, oMod, oPow, oLt, oLe, oGt, oGe, oCmp, isB, isI, uNeg, D.nrm, bAbs, ixD_num, ixD_den, nrm_rD, wNext, wBrk, wCnt, wRetN, setAll, wFor, wpIk, wiV, wiR1, wiR2, Tn.tgt, Tn.is, wAnd, wOr, wNot, wIf, wIfS, List.getElem?_cons_zero, List.getElem?_cons_succ, List.set_cons_zero, List.set_cons_succ, List.map_cons, List.map_nil, List.length_cons, List.length_nil, List.cons_append, List.nil_append, List.append_nil, List.replicate, reduceIte, Bool.false_eq_true, Nat.zero_add, Nat.reduceAdd, Nat.reduceSub, Int.cast_ofNat_Int, Option.isSome_some, Option.isSome_none, reduceCtorEq, tpG0 h1]
  refine vs_cons ?_
  simp only [wpS, wpE, wpEs, wDrop, wRet, wRetN, wSet, wSetT, wPar, wStI, wVar, wLit, wBin, wUn, wCons, wNil, wTup, wLst, wIsN, wCh2, wSl, wpoS, wpoN, wCallF, wCall, wMth, Bo.op, Co.op, Bf.op, Mn.op, oAdd, oSub, oMul, oFdiv, oMod, oPow, oLt, oLe, oGt, oGe, oCmp, isB, isI, uNeg, D.nrm, bAbs, ixD_num, ixD_den, nrm_rD, wNext, wBrk, wCnt, wRetN, setAll, wFor, wpIk, wiV, wiR1, wiR2, Tn.tgt, Tn.is, wAnd, wOr, wNot, wIf, wIfS, List.getElem?_cons_zero, List.getElem?_cons_succ, List.set_cons_zero, List.set_cons_succ, List.map_cons, List.map_nil, List.length_cons, List.length_nil, List.cons_append, List.nil_append, List.append_nil, List.replicate, reduceIte, Bool.false_eq_true, Nat.zero_add, Nat.reduceAdd, Nat.reduceSub, Int.cast_ofNat_Int, Option.isSome_some, Option.isSome_none, reduceCtorEq, tpG1 h1]
  refine vs_cons ?_
  simp only [wpS, wpE, wpEs, wDrop, wRet, wRetN, wSet, wSetT, wPar, wStI, wVar, wLit, wBin, wUn, wCons, wNil, wTup, wLst, wIsN, wCh2, wSl, wpoS, wpoN, wCallF, wCall, wMth, Bo.op, Co.op, Bf.op, Mn.op, oAdd, oSub, oMul, oFdiv, oMod, oPow, oLt, oLe, oGt, oGe, oCmp, isB, isI, uNeg, D.nrm, bAbs, ixD_num, ixD_den, nrm_rD, wNext, wBrk, wCnt, wRetN, setAll, wFor, wpIk, wiV, wiR1, wiR2, Tn.tgt, Tn.is, wAnd, wOr, wNot, wIf, wIfS, List.getElem?_cons_zero, List.getElem?_cons_succ, List.set_cons_zero, List.set_cons_succ, List.map_cons, List.map_nil, List.length_cons, List.length_nil, List.cons_append, List.nil_append, List.append_nil, List.replicate, reduceIte, Bool.false_eq_true, Nat.zero_add, Nat.reduceAdd, Nat.reduceSub, Int.cast_ofNat_Int, Option.isSome_some, Option.isSome_none, reduceCtorEq, tpS1 h1]
  refine vs_cons ?_
  simp only [wpS, wWhile]
  refine ⟨fun m ρ M' => ∃ j' k' : Int, M' a = some (tpD b (i + 1) j' k') ∧ (∀ c, c ≠ a → M' c = M c) ∧ 0 ≤ j' ∧ 0 ≤ k' ∧ ρ = [some (.ref a), some (.int n), some (.ref b), some (.int i), none, none, none] ∧ m = (ns.length - k').toNat,
    ⟨_, j, k, updM_same, fun c nc => updM_ne nc, hj, hk, rfl, rfl⟩, ?_⟩
  rintro m ρ M1 ⟨j1, k1, g1, gc, hj1, hk1, rfl, rfl⟩
  have g2 : M1 b = some (.lst (ns.map .int)) := by rw [gc b (Ne.symm hab)]; exact h2
  simp only [wpS, wpE, wpEs, wDrop, wRet, wRetN, wSet, wSetT, wPar, wStI, wVar, wLit, wBin, wUn, wCons, wNil, wTup, wLst, wIsN, wCh2, wSl, wpoS, wpoN, wCallF, wCall, wMth, Bo.op, Co.op, Bf.op, Mn.op, oAdd, oSub, oMul, oFdiv, oMod, oPow, oLt, oLe, oGt, oGe, oCmp, isB, isI, uNeg, D.nrm, bAbs, ixD_num, ixD_den, nrm_rD, wNext, wBrk, wCnt, wRetN, setAll, wFor, wpIk, wiV, wiR1, wiR2, Tn.tgt, Tn.is, wAnd, wOr, wNot, wIf, wIfS, List.getElem?_cons_zero, List.getElem?_cons_succ, List.set_cons_zero, List.set_cons_succ, List.map_cons, List.map_nil, List.length_cons, List.length_nil, List.cons_append, List.nil_append, List.append_nil, List.replicate, reduceIte, Bool.false_eq_true, Nat.zero_add, Nat.reduceAdd, Nat.reduceSub, Int.cast_ofNat_Int, Option.isSome_some, Option.isSome_none, reduceCtorEq, tpG2 g1, tpG3 g1, eq_int, lenL g2, List.length_map, decide_eq_true_eq]
  by_cases hc : j1 = 0 ∧ k1 < (ns.length : Int)
  · obtain ⟨rfl, hc⟩ := hc
    rw [if_pos rfl, if_pos hc]
    obtain ⟨v, hv⟩ : ∃ v, (ns.map D.int)[k1.toNat]? = some (.int v) := by
      rw [List.getElem?_map, List.getElem?_eq_getElem (show k1.toNat < ns.length by omega)]
      exact ⟨_, rfl⟩
    have ev : ∀ Q', oIxD (.ref b) (.int k1) M1 Q' = Q' (.int v) M1 := fun Q' => by
      have e : k1 = ((k1.toNat : Nat) : Int) := by omega
      rw [ixL g2, e, atN hv]
    have step : ∀ (jj : Int) (M2 : MH), 0 ≤ jj → M2 a = some (tpD b (i + 1) jj k1) → (∀ c, c ≠ a → M2 c = M c) → (updM M2 a (tpD b (i + 1) jj (k1 + 1))) a = some (tpD b (i + 1) jj (k1 + 1)) ∧ (∀ c, c ≠ a → (updM M2 a (tpD b (i + 1) jj (k1 + 1))) c = M c) := fun jj M2 _ _ hc => ⟨updM_same, fun c nc => by rw [updM_ne nc]; exact hc c nc⟩
    refine vs_cons ?_
    simp only [wpS, wpE, wpEs, wDrop, wRet, wRetN, wSet, wSetT, wPar, wStI, wVar, wLit, wBin, wUn, wCons, wNil, wTup, wLst, wIsN, wCh2, wSl, wpoS, wpoN, wCallF, wCall, wMth, Bo.op, Co.op, Bf.op, Mn.op, oAdd, oSub, oMul, oFdiv, oMod, oPow, oLt, oLe, oGt, oGe, oCmp, isB, isI, uNeg, D.nrm, bAbs, ixD_num, ixD_den, nrm_rD, wNext, wBrk, wCnt, wRetN, setAll, wFor, wpIk, wiV, wiR1, wiR2, Tn.tgt, Tn.is, wAnd, wOr, wNot, wIf, wIfS, List.getElem?_cons_zero, List.getElem?_cons_succ, List.set_cons_zero, List.set_cons_succ, List.map_cons, List.map_nil, List.length_cons, List.length_nil, List.cons_append, List.nil_append, List.append_nil, List.replicate, reduceIte, Bool.false_eq_true, Nat.zero_add, Nat.reduceAdd, Nat.reduceSub, Int.cast_ofNat_Int, Option.isSome_some, Option.isSome_none, reduceCtorEq, tpG3 g1, ev, abs_nat, decide_eq_true_eq]
    refine ⟨CPow.of10 (by decide) (by decide), ?_⟩
    split
    · refine vs_cons ?_
      simp only [wpS, wpE, wpEs, wDrop, wRet, wRetN, wSet, wSetT, wPar, wStI, wVar, wLit, wBin, wUn, wCons, wNil, wTup, wLst, wIsN, wCh2, wSl, wpoS, wpoN, wCallF, wCall, wMth, Bo.op, Co.op, Bf.op, Mn.op, oAdd, oSub, oMul, oFdiv, oMod, oPow, oLt, oLe, oGt, oGe, oCmp, isB, isI, uNeg, D.nrm, bAbs, ixD_num, ixD_den, nrm_rD, wNext, wBrk, wCnt, wRetN, setAll, wFor, wpIk, wiV, wiR1, wiR2, Tn.tgt, Tn.is, wAnd, wOr, wNot, wIf, wIfS, List.getElem?_cons_zero, List.getElem?_cons_succ, List.set_cons_zero, List.set_cons_succ, List.map_cons, List.map_nil, List.length_cons, List.length_nil, List.cons_append, List.nil_append, List.append_nil, List.replicate, reduceIte, Bool.false_eq_true, Nat.zero_add, Nat.reduceAdd, Nat.reduceSub, Int.cast_ofNat_Int, Option.isSome_some, Option.isSome_none, reduceCtorEq, tpG3 g1, ev, abs_nat, tpS2 g1]
      refine vs_nil ?_
      refine vs_cons ?_
      simp only [wpS, wpE, wpEs, wDrop, wRet, wRetN, wSet, wSetT, wPar, wStI, wVar, wLit, wBin, wUn, wCons, wNil, wTup, wLst, wIsN, wCh2, wSl, wpoS, wpoN, wCallF, wCall, wMth, Bo.op, Co.op, Bf.op, Mn.op, oAdd, oSub, oMul, oFdiv, oMod, oPow, oLt, oLe, oGt, oGe, oCmp, isB, isI, uNeg, D.nrm, bAbs, ixD_num, ixD_den, nrm_rD, wNext, wBrk, wCnt, wRetN, setAll, wFor, wpIk, wiV, wiR1, wiR2, Tn.tgt, Tn.is, wAnd, wOr, wNot, wIf, wIfS, List.getElem?_cons_zero, List.getElem?_cons_succ, List.set_cons_zero, List.set_cons_succ, List.map_cons, List.map_nil, List.length_cons, List.length_nil, List.cons_append, List.nil_append, List.append_nil, List.replicate, reduceIte, Bool.false_eq_true, Nat.zero_add, Nat.reduceAdd, Nat.reduceSub, Int.cast_ofNat_Int, Option.isSome_some, Option.isSome_none, reduceCtorEq, tpG3 (M := updM M1 a _) updM_same, tpS3 (M := updM M1 a _) updM_same]
      exact vs_nil ⟨_, by omega, _, k1 + 1, updM_same, fun c nc => by rw [updM_ne nc, updM_ne nc]; exact gc c nc, by omega, by omega, rfl, rfl⟩
    · refine vs_nil ?_
      refine vs_cons ?_
      simp only [wpS, wpE, wpEs, wDrop, wRet, wRetN, wSet, wSetT, wPar, wStI, wVar, wLit, wBin, wUn, wCons, wNil, wTup, wLst, wIsN, wCh2, wSl, wpoS, wpoN, wCallF, wCall, wMth, Bo.op, Co.op, Bf.op, Mn.op, oAdd, oSub, oMul, oFdiv, oMod, oPow, oLt, oLe, oGt, oGe, oCmp, isB, isI, uNeg, D.nrm, bAbs, ixD_num, ixD_den, nrm_rD, wNext, wBrk, wCnt, wRetN, setAll, wFor, wpIk, wiV, wiR1, wiR2, Tn.tgt, Tn.is, wAnd, wOr, wNot, wIf, wIfS, List.getElem?_cons_zero, List.getElem?_cons_succ, List.set_cons_zero, List.set_cons_succ, List.map_cons, List.map_nil, List.length_cons, List.length_nil, List.cons_append, List.nil_append, List.append_nil, List.replicate, reduceIte, Bool.false_eq_true, Nat.zero_add, Nat.reduceAdd, Nat.reduceSub, Int.cast_ofNat_Int, Option.isSome_some, Option.isSome_none, reduceCtorEq, tpG3 g1, tpS3 g1]
      exact vs_nil ⟨_, by omega, _, k1 + 1, updM_same, fun c nc => by rw [updM_ne nc]; exact gc c nc, by omega, by omega, rfl, rfl⟩
  · rw [ite_n hc]
    refine vs_cons ?_
    simp only [wpS, wpE, wpEs, wDrop, wRet, wRetN, wSet, wSetT, wPar, wStI, wVar, wLit, wBin, wUn, wCons, wNil, wTup, wLst, wIsN, wCh2, wSl, wpoS, wpoN, wCallF, wCall, wMth, Bo.op, Co.op, Bf.op, Mn.op, oAdd, oSub, oMul, oFdiv, oMod, oPow, oLt, oLe, oGt, oGe, oCmp, isB, isI, uNeg, D.nrm, bAbs, ixD_num, ixD_den, nrm_rD, wNext, wBrk, wCnt, wRetN, setAll, wFor, wpIk, wiV, wiR1, wiR2, Tn.tgt, Tn.is, wAnd, wOr, wNot, wIf, wIfS, List.getElem?_cons_zero, List.getElem?_cons_succ, List.set_cons_zero, List.set_cons_succ, List.map_cons, List.map_nil, List.length_cons, List.length_nil, List.cons_append, List.nil_append, List.append_nil, List.replicate, reduceIte, Bool.false_eq_true, Nat.zero_add, Nat.reduceAdd, Nat.reduceSub, Int.cast_ofNat_Int, Option.isSome_some, Option.isSome_none, reduceCtorEq, tpG2 g1, decide_eq_true_eq]
    split
    · refine vs_cons ?_
      simp only [wpS, wpE, wpEs, wDrop, wRet, wRetN, wSet, wSetT, wPar, wStI, wVar, wLit, wBin, wUn, wCons, wNil, wTup, wLst, wIsN, wCh2, wSl, wpoS, wpoN, wCallF, wCall, wMth, Bo.op, Co.op, Bf.op, Mn.op, oAdd, oSub, oMul, oFdiv, oMod, oPow, oLt, oLe, oGt, oGe, oCmp, isB, isI, uNeg, D.nrm, bAbs, ixD_num, ixD_den, nrm_rD, wNext, wBrk, wCnt, wRetN, setAll, wFor, wpIk, wiV, wiR1, wiR2, Tn.tgt, Tn.is, wAnd, wOr, wNot, wIf, wIfS, List.getElem?_cons_zero, List.getElem?_cons_succ, List.set_cons_zero, List.set_cons_succ, List.map_cons, List.map_nil, List.length_cons, List.length_nil, List.cons_append, List.nil_append, List.append_nil, List.replicate, reduceIte, Bool.false_eq_true, Nat.zero_add, Nat.reduceAdd, Nat.reduceSub, Int.cast_ofNat_Int, Option.isSome_some, Option.isSome_none, reduceCtorEq, tpG2 g1]
      refine vs_cons ?_
      simp only [wpS, wpE, wpEs, wDrop, wRet, wRetN, wSet, wSetT, wPar, wStI, wVar, wLit, wBin, wUn, wCons, wNil, wTup, wLst, wIsN, wCh2, wSl, wpoS, wpoN, wCallF, wCall, wMth, Bo.op, Co.op, Bf.op, Mn.op, oAdd, oSub, oMul, oFdiv, oMod, oPow, oLt, oLe, oGt, oGe, oCmp, isB, isI, uNeg, D.nrm, bAbs, ixD_num, ixD_den, nrm_rD, wNext, wBrk, wCnt, wRetN, setAll, wFor, wpIk, wiV, wiR1, wiR2, Tn.tgt, Tn.is, wAnd, wOr, wNot, wIf, wIfS, List.getElem?_cons_zero, List.getElem?_cons_succ, List.set_cons_zero, List.set_cons_succ, List.map_cons, List.map_nil, List.length_cons, List.length_nil, List.cons_append, List.nil_append, List.append_nil, List.replicate, reduceIte, Bool.false_eq_true, Nat.zero_add, Nat.reduceAdd, Nat.reduceSub, Int.cast_ofNat_Int, Option.isSome_some, Option.isSome_none, reduceCtorEq, tpS2 g1]
      refine ⟨⟨dz.1, dz.2⟩, ?_⟩
      refine vs_cons ?_
      simp only [wpS, wpE, wpEs, wDrop, wRet, wRetN, wSet, wSetT, wPar, wStI, wVar, wLit, wBin, wUn, wCons, wNil, wTup, wLst, wIsN, wCh2, wSl, wpoS, wpoN, wCallF, wCall, wMth, Bo.op, Co.op, Bf.op, Mn.op, oAdd, oSub, oMul, oFdiv, oMod, oPow, oLt, oLe, oGt, oGe, oCmp, isB, isI, uNeg, D.nrm, bAbs, ixD_num, ixD_den, nrm_rD, wNext, wBrk, wCnt, wRetN, setAll, wFor, wpIk, wiV, wiR1, wiR2, Tn.tgt, Tn.is, wAnd, wOr, wNot, wIf, wIfS, List.getElem?_cons_zero, List.getElem?_cons_succ, List.set_cons_zero, List.set_cons_succ, List.map_cons, List.map_nil, List.length_cons, List.length_nil, List.cons_append, List.nil_append, List.append_nil, List.replicate, reduceIte, Bool.false_eq_true, Nat.zero_add, Nat.reduceAdd, Nat.reduceSub, Int.cast_ofNat_Int, Option.isSome_some, Option.isSome_none, reduceCtorEq]
      refine ⟨dz.1, fin _ (i + 1) (j1 / n) k1 updM_same (fun c nc => by rw [updM_ne nc]; exact gc c nc) rfl (Int.ediv_nonneg hj1 (by omega)) hk1 _⟩
    · refine vs_nil ?_
      refine vs_cons ?_
      simp only [wpS, wpE, wpEs, wDrop, wRet, wRetN, wSet, wSetT, wPar, wStI, wVar, wLit, wBin, wUn, wCons, wNil, wTup, wLst, wIsN, wCh2, wSl, wpoS, wpoN, wCallF, wCall, wMth, Bo.op, Co.op, Bf.op, Mn.op, oAdd, oSub, oMul, oFdiv, oMod, oPow, oLt, oLe, oGt, oGe, oCmp, isB, isI, uNeg, D.nrm, bAbs, ixD_num, ixD_den, nrm_rD, wNext, wBrk, wCnt, wRetN, setAll, wFor, wpIk, wiV, wiR1, wiR2, Tn.tgt, Tn.is, wAnd, wOr, wNot, wIf, wIfS, List.getElem?_cons_zero, List.getElem?_cons_succ, List.set_cons_zero, List.set_cons_succ, List.map_cons, List.map_nil, List.length_cons, List.length_nil, List.cons_append, List.nil_append, List.append_nil, List.replicate, reduceIte, Bool.false_eq_true, Nat.zero_add, Nat.reduceAdd, Nat.reduceSub, Int.cast_ofNat_Int, Option.isSome_some, Option.isSome_none, reduceCtorEq]
      have fin1 := fin M1 (i + 1) j1 k1 g1 gc rfl hj1 hk1
      have rest : ∀ v : Int, wpSs sp R [.set 6 (.bin .mod (.bin .mul (.bin .add (.bin .mod (.var 5) (.lit (.int 1000003))) (.lit (.int 1))) (.bin .add (.bin .add (.bin .mul (.bin .mod (.var 3) (.lit (.int 997))) (.lit (.int 7919))) (.lit (.int 104729))) (.var 3))) (.lit (.int 1000033))), .set 6 (.bin .mod (.bin .add (.bin .add (.bin .mul (.var 6) (.var 6)) (.bin .mul (.lit (.int 3)) (.var 6))) (.var 3)) (.lit (.int 999983))), .ret (.bin .mod (.bin .mod (.bin .mul (.var 6) (.lit (.int 48271))) (.lit (.int 65537))) (.var 1))] { nx := fun _ M' => Q .non M', rt := Q } [some (.ref a), some (.int n), some (.ref b), some (.int i), none, some (.int v), none] M1 := fun v => by
        have s1 : ∀ x : Int, 0 ≤ x → x < 2 ^ 90 → x.natAbs.log2 < 90 := fun x h1 h2 => by
          by_cases h : x.natAbs = 0
          · rw [h]; decide
          · rw [Nat.log2_lt h]; omega
        have cm : ∀ x y : Int, 0 ≤ x → x < 2 ^ 90 → 0 ≤ y → y < 2 ^ 90 → CMulW x y := fun x y a1 a2 a3 a4 => cmul_of (s1 x a1 a2) (s1 y a3 a4) (by decide)
        have em : ∀ x y : Int, 0 < y → 0 ≤ x % y ∧ x % y < y := fun x y hy => ⟨Int.emod_nonneg x (by omega), Int.emod_lt_of_pos x hy⟩
        have m1 := em v 1000003 (by decide)
        have m2 := em i 997 (by decide)
        refine vs_cons ?_
        simp only [wpS, wpE, wpEs, wDrop, wRet, wRetN, wSet, wSetT, wPar, wStI, wVar, wLit, wBin, wUn, wCons, wNil, wTup, wLst, wIsN, wCh2, wSl, wpoS, wpoN, wCallF, wCall, wMth, Bo.op, Co.op, Bf.op, Mn.op, oAdd, oSub, oMul, oFdiv, oMod, oPow, oLt, oLe, oGt, oGe, oCmp, isB, isI, uNeg, D.nrm, bAbs, ixD_num, ixD_den, nrm_rD, wNext, wBrk, wCnt, wRetN, setAll, wFor, wpIk, wiV, wiR1, wiR2, Tn.tgt, Tn.is, wAnd, wOr, wNot, wIf, wIfS, List.getElem?_cons_zero, List.getElem?_cons_succ, List.set_cons_zero, List.set_cons_succ, List.map_cons, List.map_nil, List.length_cons, List.length_nil, List.cons_append, List.nil_append, List.append_nil, List.replicate, reduceIte, Bool.false_eq_true, Nat.zero_add, Nat.reduceAdd, Nat.reduceSub, Int.cast_ofNat_Int, Option.isSome_some, Option.isSome_none, reduceCtorEq]
        refine ⟨by decide, by decide, cm _ _ m2.1 (by omega) (by decide) (by decide), cm _ _ (by omega) (by omega) (by omega) (by omega), by decide, ?_⟩
        generalize (v % 1000003 + 1) * (i % 997 * 7919 + 104729 + i) = x
        have m3 := em x 1000033 (by decide)
        refine vs_cons ?_
        simp only [wpS, wpE, wpEs, wDrop, wRet, wRetN, wSet, wSetT, wPar, wStI, wVar, wLit, wBin, wUn, wCons, wNil, wTup, wLst, wIsN, wCh2, wSl, wpoS, wpoN, wCallF, wCall, wMth, Bo.op, Co.op, Bf.op, Mn.op, oAdd, oSub, oMul, oFdiv, oMod, oPow, oLt, oLe, oGt, oGe, oCmp, isB, isI, uNeg, D.nrm, bAbs, ixD_num, ixD_den, nrm_rD, wNext, wBrk, wCnt, wRetN, setAll, wFor, wpIk, wiV, wiR1, wiR2, Tn.tgt, Tn.is, wAnd, wOr, wNot, wIf, wIfS, List.getElem?_cons_zero, List.getElem?_cons_succ, List.set_cons_zero, List.set_cons_succ, List.map_cons, List.map_nil, List.length_cons, List.length_nil, List.cons_append, List.nil_append, List.append_nil, List.replicate, reduceIte, Bool.false_eq_true, Nat.zero_add, Nat.reduceAdd, Nat.reduceSub, Int.cast_ofNat_Int, Option.isSome_some, Option.isSome_none, reduceCtorEq]
        refine ⟨cm _ _ m3.1 (by omega) m3.1 (by omega), cm _ _ (by decide) (by decide) m3.1 (by omega), by decide, ?_⟩
        generalize x % 1000033 * (x % 1000033) + 3 * (x % 1000033) + i = y
        have m4 := em y 999983 (by decide)
        refine vs_cons ?_
        simp only [wpS, wpE, wpEs, wDrop, wRet, wRetN, wSet, wSetT, wPar, wStI, wVar, wLit, wBin, wUn, wCons, wNil, wTup, wLst, wIsN, wCh2, wSl, wpoS, wpoN, wCallF, wCall, wMth, Bo.op, Co.op, Bf.op, Mn.op, oAdd, oSub, oMul, oFdiv, oMod, oPow, oLt, oLe, oGt, oGe, oCmp, isB, isI, uNeg, D.nrm, bAbs, ixD_num, ixD_den, nrm_rD, wNext, wBrk, wCnt, wRetN, setAll, wFor, wpIk, wiV, wiR1, wiR2, Tn.tgt, Tn.is, wAnd, wOr, wNot, wIf, wIfS, List.getElem?_cons_zero, List.getElem?_cons_succ, List.set_cons_zero, List.set_cons_succ, List.map_cons, List.map_nil, List.length_cons, List.length_nil, List.cons_append, List.nil_append, List.append_nil, List.replicate, reduceIte, Bool.false_eq_true, Nat.zero_add, Nat.reduceAdd, Nat.reduceSub, Int.cast_ofNat_Int, Option.isSome_some, Option.isSome_none, reduceCtorEq]
        exact ⟨cm _ _ m4.1 (by omega) (by decide) (by decide), by decide, by omega, fin1 _⟩
      refine vs_cons ?_
      simp only [wpS, wpE, wpEs, wDrop, wRet, wRetN, wSet, wSetT, wPar, wStI, wVar, wLit, wBin, wUn, wCons, wNil, wTup, wLst, wIsN, wCh2, wSl, wpoS, wpoN, wCallF, wCall, wMth, Bo.op, Co.op, Bf.op, Mn.op, oAdd, oSub, oMul, oFdiv, oMod, oPow, oLt, oLe, oGt, oGe, oCmp, isB, isI, uNeg, D.nrm, bAbs, ixD_num, ixD_den, nrm_rD, wNext, wBrk, wCnt, wRetN, setAll, wFor, wpIk, wiV, wiR1, wiR2, Tn.tgt, Tn.is, wAnd, wOr, wNot, wIf, wIfS, List.getElem?_cons_zero, List.getElem?_cons_succ, List.set_cons_zero, List.set_cons_succ, List.map_cons, List.map_nil, List.length_cons, List.length_nil, List.cons_append, List.nil_append, List.append_nil, List.replicate, reduceIte, Bool.false_eq_true, Nat.zero_add, Nat.reduceAdd, Nat.reduceSub, Int.cast_ofNat_Int, Option.isSome_some, Option.isSome_none, reduceCtorEq, lenL g2, List.length_map, decide_eq_true_eq]
      split
      · rename_i hpos
        have e1 := Int.emod_nonneg i (show (ns.length : Int) ≠ 0 by omega)
        have e2 := Int.emod_lt_of_pos i hpos
        have e : ((i % (ns.length : Int)).toNat : Int) = i % (ns.length : Int) := by omega
        obtain ⟨v, hv⟩ : ∃ v, (ns.map D.int)[(i % (ns.length : Int)).toNat]? = some (.int v) := by
          rw [List.getElem?_map, List.getElem?_eq_getElem (show (i % (ns.length : Int)).toNat < ns.length by omega)]
          exact ⟨_, rfl⟩
        refine vs_cons ?_
        simp only [wpS, wpE, wpEs, wDrop, wRet, wRetN, wSet, wSetT, wPar, wStI, wVar, wLit, wBin, wUn, wCons, wNil, wTup, wLst, wIsN, wCh2, wSl, wpoS, wpoN, wCallF, wCall, wMth, Bo.op, Co.op, Bf.op, Mn.op, oAdd, oSub, oMul, oFdiv, oMod, oPow, oLt, oLe, oGt, oGe, oCmp, isB, isI, uNeg, D.nrm, bAbs, ixD_num, ixD_den, nrm_rD, wNext, wBrk, wCnt, wRetN, setAll, wFor, wpIk, wiV, wiR1, wiR2, Tn.tgt, Tn.is, wAnd, wOr, wNot, wIf, wIfS, List.getElem?_cons_zero, List.getElem?_cons_succ, List.set_cons_zero, List.set_cons_succ, List.map_cons, List.map_nil, List.length_cons, List.length_nil, List.cons_append, List.nil_append, List.append_nil, List.replicate, reduceIte, Bool.false_eq_true, Nat.zero_add, Nat.reduceAdd, Nat.reduceSub, Int.cast_ofNat_Int, Option.isSome_some, Option.isSome_none, reduceCtorEq, lenL g2, List.length_map]
        refine ⟨hpos, ?_⟩
        rw [← e, ixL g2, atN hv]
        exact vs_nil (rest v)
      · exact vs_nil (rest 0)
end
end Pz


set_option Elab.async false
set_option linter.all false
set_option autoImplicit false
set_option maxRecDepth 100000
set_option maxHeartbeats 4000000
/-! Sums, parts. -/
namespace Pz
open PySem PySem.Spec L2
open PyProof.Rows hiding St

theorem itL {a : Addr} {M : MH} {xs : List D} (h : M a = some (.lst xs)) (Q : List D → (MH → Prop) → MH → Prop) : itV (.ref a) M Q = Q xs (fun M' => M' a = some (MO.lst xs)) M := by
  show (match M a with | some (.lst ds) => Q ds (fun M' => M' a = some (MO.lst ds)) M | _ => False) = _
  rw [h]
def spSum : Spec := fun ds M Q _ => ∃ (p : Addr) (qs : List Rat) (m b : Nat), ds = [.ref p] ∧ M p = some (.lst (qs.map rD)) ∧ SumOk qs m b ∧ Q (rD (sumR qs)) M
def cSum (z : Ex) (iP : Nat) : List Sx := [.set 1 z, .for_ (.nm 2) .val (.var 0) (.var 0) [.set 1 (.call iP [.var 1, .var 2])], .ret (.var 1)]
section
variable {sp : Nat → Spec} {M : MH} {Q : Pt} {R : XPt} {ds : List D}
theorem sum_loop {iP : Nat} (h : sp iP = spPlus) {p : Addr} {chk : MH → Prop} (hc : chk M) {E : ME} {m b : Nat} (m0 : 0 < m) (mb : m < big) : ∀ (qs : List Rat) (acc : Rat) (k : Nat) (x : Option D), Ft m (k * b) acc → (∀ q ∈ qs, Ft m b q) → (k + qs.length) * b * m < big →
    (∀ x, E.nx [some (.ref p), some (rD (qs.foldl (· + ·) acc)), x] M) → goFor (tgN 2) chk (wpSs sp R [.set 1 (.call iP [.var 1, .var 2])]) E (qs.map rD) [some (.ref p), some (rD acc), x] M
  | [], acc, k, x, ha, _, _, hE => ⟨hc, hE x⟩
  | q :: qs, acc, k, x, ha, hq, hb, hE => by
    refine ⟨hc, ?_⟩
    have e : (k + (q :: qs).length) = (k + 1) + qs.length := by simp only [List.length_cons]; omega
    rw [e] at hb
    have k1 : (k + 1) * b * m < big := Nat.lt_of_le_of_lt (Nat.mul_le_mul_right _ (Nat.mul_le_mul_right _ (Nat.le_add_right _ _))) hb
    have k2 : k * b * m < big := Nat.lt_of_le_of_lt (Nat.mul_le_mul_right _ (Nat.mul_le_mul_right _ (Nat.le_succ _))) k1
    have k3 : b * m < big := Nat.lt_of_le_of_lt (Nat.mul_le_mul_right _ (Nat.le_mul_of_pos_left _ (Nat.succ_pos k))) k1
    have fq := hq q List.mem_cons_self
    simp only [List.map_cons, tgN, List.set_cons_succ, List.set_cons_zero]
    refine vs_cons ?_
    simp only [wpS, wpE, wpEs, wDrop, wRet, wRetN, wSet, wSetT, wPar, wStI, wVar, wLit, wBin, wUn, wCons, wNil, wTup, wLst, wIsN, wCh2, wSl, wpoS, wpoN, wCallF, wCall, wMth, Bo.op, Co.op, Bf.op, Mn.op, oAdd, oSub, oMul, oFdiv, oMod, oPow, oLt, oLe, oGt, oGe, oCmp, isB, isI, uNeg, D.nrm, bAbs, ixD_num, ixD_den, nrm_rD, wNext, wBrk, wCnt, wRetN, setAll, wFor, wpIk, wiV, wiR1, wiR2, Tn.tgt, Tn.is, wAnd, wOr, wNot, wIf, wIfS, List.getElem?_cons_zero, List.getElem?_cons_succ, List.set_cons_zero, List.set_cons_succ, List.map_cons, List.map_nil, List.length_cons, List.length_nil, List.cons_append, List.nil_append, List.append_nil, List.replicate, reduceIte, Bool.false_eq_true, Nat.zero_add, Nat.reduceAdd, Nat.reduceSub, Int.cast_ofNat_Int, Option.isSome_some, Option.isSome_none, reduceCtorEq, h]
    refine ⟨acc, q, rfl, ha.ok m0 mb k2, fq.ok m0 mb k3, vs_nil ?_⟩
    refine sum_loop h hc m0 mb qs (acc + q) (k + 1) _ ?_ (fun q' hq' => hq q' (List.mem_cons_of_mem _ hq')) hb hE
    have := ha.add m0 fq
    rw [← Nat.succ_mul] at this
    exact this
theorem vcSum {iP : Nat} {z : Ex} {s1 s2 s3 : Str} (h : sp iP = spPlus) (hz : ∀ (R : XPt) (ρ : Ev) (M : MH) (Q : Pt), Q (rD 0) M → wpE sp R z ρ M Q) : Vc sp (cSum z iP) [s1, s2, s3] spSum := by
  rintro ds M Q R ⟨p, qs, m, b, rfl, hp, hs, k⟩
  unfold cSum startD
  refine vs_cons ?_
  simp only [wpS, wSet]
  refine hz _ _ _ _ ?_
  refine vs_cons ?_
  simp only [wpS, wpE, wpEs, wDrop, wRet, wRetN, wSet, wSetT, wPar, wStI, wVar, wLit, wBin, wUn, wCons, wNil, wTup, wLst, wIsN, wCh2, wSl, wpoS, wpoN, wCallF, wCall, wMth, Bo.op, Co.op, Bf.op, Mn.op, oAdd, oSub, oMul, oFdiv, oMod, oPow, oLt, oLe, oGt, oGe, oCmp, isB, isI, uNeg, D.nrm, bAbs, ixD_num, ixD_den, nrm_rD, wNext, wBrk, wCnt, wRetN, setAll, wFor, wpIk, wiV, wiR1, wiR2, Tn.tgt, Tn.is, wAnd, wOr, wNot, wIf, wIfS, List.getElem?_cons_zero, List.getElem?_cons_succ, List.set_cons_zero, List.set_cons_succ, List.map_cons, List.map_nil, List.length_cons, List.length_nil, List.cons_append, List.nil_append, List.append_nil, List.replicate, reduceIte, Bool.false_eq_true, Nat.zero_add, Nat.reduceAdd, Nat.reduceSub, Int.cast_ofNat_Int, Option.isSome_some, Option.isSome_none, reduceCtorEq, itL hp]
  refine sum_loop h hp hs.m0 hs.mb qs 0 0 _ (by rw [Nat.zero_mul]; exact Ft.zero m 0) hs.ft (by rw [Nat.zero_add]; exact hs.bb) fun x => ?_
  refine vs_cons ?_
  simp only [wpS, wpE, wpEs, wDrop, wRet, wRetN, wSet, wSetT, wPar, wStI, wVar, wLit, wBin, wUn, wCons, wNil, wTup, wLst, wIsN, wCh2, wSl, wpoS, wpoN, wCallF, wCall, wMth, Bo.op, Co.op, Bf.op, Mn.op, oAdd, oSub, oMul, oFdiv, oMod, oPow, oLt, oLe, oGt, oGe, oCmp, isB, isI, uNeg, D.nrm, bAbs, ixD_num, ixD_den, nrm_rD, wNext, wBrk, wCnt, wRetN, setAll, wFor, wpIk, wiV, wiR1, wiR2, Tn.tgt, Tn.is, wAnd, wOr, wNot, wIf, wIfS, List.getElem?_cons_zero, List.getElem?_cons_succ, List.set_cons_zero, List.set_cons_succ, List.map_cons, List.map_nil, List.length_cons, List.length_nil, List.cons_append, List.nil_append, List.append_nil, List.replicate, reduceIte, Bool.false_eq_true, Nat.zero_add, Nat.reduceAdd, Nat.reduceSub, Int.cast_ofNat_Int, Option.isSome_some, Option.isSome_none, reduceCtorEq]
  exact k
theorem z_lit (R : XPt) (ρ : Ev) (M : MH) (Q : Pt) (k : Q (rD 0) M) : wpE sp R (.lit (.tup [.int 0, .int 1])) ρ M Q := k
theorem z_tup (R : XPt) (ρ : Ev) (M : MH) (Q : Pt) (k : Q (rD 0) M) : wpE sp R (.tup [.lit (.int 0), .lit (.int 1)]) ρ M Q := by
  simp only [wpS, wpE, wpEs, wDrop, wRet, wRetN, wSet, wSetT, wPar, wStI, wVar, wLit, wBin, wUn, wCons, wNil, wTup, wLst, wIsN, wCh2, wSl, wpoS, wpoN, wCallF, wCall, wMth, Bo.op, Co.op, Bf.op, Mn.op, oAdd, oSub, oMul, oFdiv, oMod, oPow, oLt, oLe, oGt, oGe, oCmp, isB, isI, uNeg, D.nrm, bAbs, ixD_num, ixD_den, nrm_rD, wNext, wBrk, wCnt, wRetN, setAll, wFor, wpIk, wiV, wiR1, wiR2, Tn.tgt, Tn.is, wAnd, wOr, wNot, wIf, wIfS, List.getElem?_cons_zero, List.getElem?_cons_succ, List.set_cons_zero, List.set_cons_succ, List.map_cons, List.map_nil, List.length_cons, List.length_nil, List.cons_append, List.nil_append, List.append_nil, List.replicate, reduceIte, Bool.false_eq_true, Nat.zero_add, Nat.reduceAdd, Nat.reduceSub, Int.cast_ofNat_Int, Option.isSome_some, Option.isSome_none, reduceCtorEq]
  exact ⟨by decide, k⟩

/-! ### a part -/
def LL : Nat := 5822723907000000000
/-- a drawn part: above nought, at most 10^9 + 7 -/
def Prt (q : Rat) : Prop := 0 < q ∧ q ≤ ((1000000007 : Nat) : Rat) ∧ q.den ∣ LL
theorem Prt.ft {q : Rat} (h : Prt q) : Ft LL 1000000007 q := ⟨h.2.2, by have := h.1; have : (0 : Rat) ≤ ((1000000007 : Nat) : Rat) := Rat.natCast_nonneg; grind, h.2.1⟩
theorem prt_of {t b : Nat} (ht : 0 < t) (h1 : t ≤ 1000000007) (hb : 0 < b) (h2 : b ∣ LL) : Prt (Rat.divInt t b) := by
  have hb' : (0 : Rat) < (b : Rat) := Rat.natCast_pos.mpr hb
  have ht' : (0 : Rat) < (t : Rat) := Rat.natCast_pos.mpr ht
  have e : Rat.divInt t b = (t : Rat) / (b : Rat) := by rw [Rat.divInt_eq_div, Rat.intCast_natCast, Rat.intCast_natCast]
  refine ⟨?_, ?_, ?_⟩
  · rw [e, Rat.div_def]
    exact Rat.mul_pos ht' (Rat.inv_pos.mpr hb')
  · have : ¬ ((1000000007 : Nat) : Rat) < Rat.divInt t b := by
      rw [e, Rat.lt_div_iff hb']
      intro z
      have a1 : (t : Rat) ≤ ((1000000007 : Nat) : Rat) := Rat.natCast_le_natCast.mpr h1
      have a2 : ((1 : Nat) : Rat) ≤ (b : Rat) := Rat.natCast_le_natCast.mpr hb
      have a3 := Rat.mul_le_mul_of_nonneg_left a2 (show (0 : Rat) ≤ ((1000000007 : Nat) : Rat) from Rat.natCast_nonneg)
      have a4 : ((1 : Nat) : Rat) = 1 := rfl
      rw [a4, Rat.mul_one] at a3
      grind
    exact Rat.not_lt.mp this
  · refine Nat.dvd_trans ?_ h2
    rw [Rat.den_divInt, if_neg (by omega), Int.natAbs_natCast]
    exact Nat.div_dvd_of_dvd (by have := Int.gcd_dvd_natAbs_left (b : Int) (t : Int); rwa [Int.natAbs_natCast] at this)
def spPart : Spec := fun ds M Q _ => ∃ (t : Tp) (n : Nat), ds = [.ref t.a] ∧ Tape M t (n + 5) ∧ ∀ q M', Prt q → Ext t n M M' → Q (rD q) M'
def cPart (iD iR : Nat) : List Sx := [.set 1 (.lst [.lit (.int 1), .lit (.int 2), .lit (.int 3), .lit (.int 5), .bin .add (.lit (.int 1)) (.call iD [.var 0, .lit (.int 40)]), .bin .add (.lit (.int 1)) (.call iD [.var 0, .lit (.int 60000)]), .bin .add (.bin .pow (.lit (.int 10)) (.lit (.int 9))) (.lit (.int 7))]), .set 2 (.lst [.lit (.int 1), .lit (.int 1), .lit (.int 1), .lit (.int 2), .lit (.int 3), .lit (.int 6), .bin .add (.lit (.int 1)) (.call iD [.var 0, .lit (.int 30)]), .bin .pow (.lit (.int 10)) (.lit (.int 9))]), .ret (.call iR [.ix (.var 1) (.call iD [.var 0, .lit (.int 7)]), .ix (.var 2) (.call iD [.var 0, .lit (.int 8)])])]
theorem dvd_LL : ∀ j < 30, 1 + j ∣ LL := by decide +kernel
theorem pick7 {P : Int → Prop} {t0 t1 t2 t3 t4 t5 t6 : Int} (h0 : P t0) (h1 : P t1) (h2 : P t2) (h3 : P t3) (h4 : P t4) (h5 : P t5) (h6 : P t6) : ∀ j < 7, ∃ t, [D.int t0, .int t1, .int t2, .int t3, .int t4, .int t5, .int t6][j]? = some (.int t) ∧ P t
  | 0, _ => ⟨_, rfl, h0⟩
  | 1, _ => ⟨_, rfl, h1⟩
  | 2, _ => ⟨_, rfl, h2⟩
  | 3, _ => ⟨_, rfl, h3⟩
  | 4, _ => ⟨_, rfl, h4⟩
  | 5, _ => ⟨_, rfl, h5⟩
  | 6, _ => ⟨_, rfl, h6⟩
theorem pick8 {P : Int → Prop} {t0 t1 t2 t3 t4 t5 t6 t7 : Int} (h0 : P t0) (h1 : P t1) (h2 : P t2) (h3 : P t3) (h4 : P t4) (h5 : P t5) (h6 : P t6) (h7 : P t7) : ∀ j < 8, ∃ t, [D.int t0, .int t1, .int t2, .int t3, .int t4, .int t5, .int t6, .int t7][j]? = some (.int t) ∧ P t
  | 0, _ => ⟨_, rfl, h0⟩
  | 1, _ => ⟨_, rfl, h1⟩
  | 2, _ => ⟨_, rfl, h2⟩
  | 3, _ => ⟨_, rfl, h3⟩
  | 4, _ => ⟨_, rfl, h4⟩
  | 5, _ => ⟨_, rfl, h5⟩
  | 6, _ => ⟨_, rfl, h6⟩
  | 7, _ => ⟨_, rfl, h7⟩
theorem vcPart {iD iR : Nat} {s1 s2 s3 : Str} (hD : sp iD = spDraw) (hR : sp iR = spRatio) : Vc sp (cPart iD iR) [s1, s2, s3] spPart := by
  rintro ds M Q R ⟨a, n, rfl, ht, k⟩
  unfold cPart startD
  refine vs_cons ?_
  simp only [wpS, wpE, wpEs, wDrop, wRet, wRetN, wSet, wSetT, wPar, wStI, wVar, wLit, wBin, wUn, wCons, wNil, wTup, wLst, wIsN, wCh2, wSl, wpoS, wpoN, wCallF, wCall, wMth, Bo.op, Co.op, Bf.op, Mn.op, oAdd, oSub, oMul, oFdiv, oMod, oPow, oLt, oLe, oGt, oGe, oCmp, isB, isI, uNeg, D.nrm, bAbs, ixD_num, ixD_den, nrm_rD, wNext, wBrk, wCnt, wRetN, setAll, wFor, wpIk, wiV, wiR1, wiR2, Tn.tgt, Tn.is, wAnd, wOr, wNot, wIf, wIfS, List.getElem?_cons_zero, List.getElem?_cons_succ, List.set_cons_zero, List.set_cons_succ, List.map_cons, List.map_nil, List.length_cons, List.length_nil, List.cons_append, List.nil_append, List.append_nil, List.replicate, reduceIte, Bool.false_eq_true, Nat.zero_add, Nat.reduceAdd, Nat.reduceSub, Int.cast_ofNat_Int, Option.isSome_some, Option.isSome_none, reduceCtorEq, hD]
  refine ⟨a, 40, n + 4, rfl, ht, by decide, by decide, fun j1 M1 h1 e1 => ?_⟩
  refine ⟨a, 60000, n + 3, rfl, e1.t, by decide, by decide, fun j2 M2 h2 e2 => ?_⟩
  refine ⟨CPow.of10 (by decide) (by decide), by decide, fun p hp => ?_⟩
  have x2 := (e1.trans e2).new (o := .lst [.int 1, .int 2, .int 3, .int 5, .int (1 + j1), .int (1 + j2), .int (10 ^ Int.toNat 9 + 7)]) hp
  have np := e2.t.ne hp
  refine vs_cons ?_
  simp only [wpS, wpE, wpEs, wDrop, wRet, wRetN, wSet, wSetT, wPar, wStI, wVar, wLit, wBin, wUn, wCons, wNil, wTup, wLst, wIsN, wCh2, wSl, wpoS, wpoN, wCallF, wCall, wMth, Bo.op, Co.op, Bf.op, Mn.op, oAdd, oSub, oMul, oFdiv, oMod, oPow, oLt, oLe, oGt, oGe, oCmp, isB, isI, uNeg, D.nrm, bAbs, ixD_num, ixD_den, nrm_rD, wNext, wBrk, wCnt, wRetN, setAll, wFor, wpIk, wiV, wiR1, wiR2, Tn.tgt, Tn.is, wAnd, wOr, wNot, wIf, wIfS, List.getElem?_cons_zero, List.getElem?_cons_succ, List.set_cons_zero, List.set_cons_succ, List.map_cons, List.map_nil, List.length_cons, List.length_nil, List.cons_append, List.nil_append, List.append_nil, List.replicate, reduceIte, Bool.false_eq_true, Nat.zero_add, Nat.reduceAdd, Nat.reduceSub, Int.cast_ofNat_Int, Option.isSome_some, Option.isSome_none, reduceCtorEq, hD]
  refine ⟨a, 30, n + 2, rfl, x2.t, by decide, by decide, fun j3 M3 h3 e3 => ?_⟩
  refine ⟨CPow.of10 (by decide) (by decide), by decide, fun p2 hp2 => ?_⟩
  have x3 := (x2.trans e3).new (o := .lst [.int 1, .int 1, .int 1, .int 2, .int 3, .int 6, .int (1 + j3), .int (10 ^ Int.toNat 9)]) hp2
  have np2 := e3.t.ne hp2
  have g1 := e3.get np updM_same
  have pp : p ≠ p2 := by rintro rfl; rw [g1] at hp2; cases hp2
  refine vs_cons ?_
  simp only [wpS, wpE, wpEs, wDrop, wRet, wRetN, wSet, wSetT, wPar, wStI, wVar, wLit, wBin, wUn, wCons, wNil, wTup, wLst, wIsN, wCh2, wSl, wpoS, wpoN, wCallF, wCall, wMth, Bo.op, Co.op, Bf.op, Mn.op, oAdd, oSub, oMul, oFdiv, oMod, oPow, oLt, oLe, oGt, oGe, oCmp, isB, isI, uNeg, D.nrm, bAbs, ixD_num, ixD_den, nrm_rD, wNext, wBrk, wCnt, wRetN, setAll, wFor, wpIk, wiV, wiR1, wiR2, Tn.tgt, Tn.is, wAnd, wOr, wNot, wIf, wIfS, List.getElem?_cons_zero, List.getElem?_cons_succ, List.set_cons_zero, List.set_cons_succ, List.map_cons, List.map_nil, List.length_cons, List.length_nil, List.cons_append, List.nil_append, List.append_nil, List.replicate, reduceIte, Bool.false_eq_true, Nat.zero_add, Nat.reduceAdd, Nat.reduceSub, Int.cast_ofNat_Int, Option.isSome_some, Option.isSome_none, reduceCtorEq, hD, hR]
  refine ⟨a, 7, n + 1, rfl, x3.t, by decide, by decide, fun j4 M4 h4 e4 => ?_⟩
  have g2 := e4.get np ((updM_ne pp).trans g1)
  have g3 := e4.get np2 updM_same
  obtain ⟨t, et, pt1, pt2⟩ := pick7 (P := fun t => 0 < t ∧ t ≤ 1000000007) (t0 := 1) (t1 := 2) (t2 := 3) (t3 := 5) (t4 := 1 + j1) (t5 := 1 + j2) (t6 := 10 ^ Int.toNat 9 + 7) (by decide) (by decide) (by decide) (by decide) (by omega) (by omega) (by decide) j4 h4
  simp only [ixL g2, atN et]
  refine ⟨a, 8, n, rfl, e4.t, by decide, by decide, fun j5 M5 h5 e5 => ?_⟩
  have g4 := e5.get np2 g3
  obtain ⟨u, eu, pu1, pu2, pu3⟩ := pick8 (P := fun t => 0 < t ∧ t ≤ 1000000007 ∧ t.natAbs ∣ LL) (t0 := 1) (t1 := 1) (t2 := 1) (t3 := 2) (t4 := 3) (t5 := 6) (t6 := 1 + j3) (t7 := 10 ^ Int.toNat 9) (by decide +kernel) (by decide +kernel) (by decide +kernel) (by decide +kernel) (by decide +kernel) (by decide +kernel)
    ⟨by omega, by omega, by have := dvd_LL j3 h3; have e : (1 + (j3 : Int)).natAbs = 1 + j3 := by omega
                            rw [e]; exact this⟩ (by decide +kernel) j5 h5
  simp only [ixL g4, atN eu]
  have zt : ((t.toNat : Nat) : Int) = t := by omega
  have zu : ((u.toNat : Nat) : Int) = u := by omega
  have eun : u.natAbs = u.toNat := by omega
  refine ⟨t, u, rfl, pu1, ?_, k _ _ ?_ ((x3.trans e4).trans e5)⟩
  · by_cases h : u.natAbs = 0
    · rw [h]; decide
    · rw [Nat.log2_lt h]
      exact Nat.lt_of_le_of_lt (show u.natAbs ≤ 1000000007 by omega) (by decide +kernel)
  · rw [← zt, ← zu]
    exact prt_of (by omega) (by omega) (by omega) (by rw [← eun]; exact pu3)
end
end Pz


set_option Elab.async false
set_option linter.all false
set_option autoImplicit false
set_option maxRecDepth 100000
set_option maxHeartbeats 4000000
/-! Ratios compared, shown, looked up. -/
namespace Pz
open PySem PySem.Spec L2
open PyProof.Rows hiding St

def pR (q : Rat) : PyData := .tuple [.int q.num, .int q.den]
theorem py_rD (M : MH) (n : Nat) (q : Rat) : pyD M (n + 2) (rD q) = some (pR q) := rfl
theorem rD_inj {a b : Rat} : a.num = b.num ∧ (a.den : Int) = b.den ↔ a = b :=
  ⟨fun ⟨h1, h2⟩ => Rat.ext h1 (by omega), fun h => by subst h; exact ⟨rfl, rfl⟩⟩
theorem eqv_pR (a b : Rat) : PyData.eqv (pR a) (pR b) = decide (a = b) := by
  unfold pR
  simp only [PyData.eqv, PyData.eqvAll, Bool.and_true]
  by_cases h : a = b
  · subst h; simp
  · rw [decide_eq_false h]
    by_cases h1 : a.num = b.num
    · have h2 : ¬ (a.den : Int) = b.den := fun z => h (rD_inj.mp ⟨h1, z⟩)
      rw [beq_eq_false_iff_ne.mpr h2, Bool.and_false]
    · rw [beq_eq_false_iff_ne.mpr h1, Bool.false_and]
theorem shaped_pR (q : Rat) : SeqAt.shaped (pR q) = true := rfl
theorem lay_pR : ∀ qs : List Rat, PyData.canLayAll0 (qs.map pR) = true ∧ PyData.depthAll (qs.map pR) ≤ 1
  | [] => ⟨rfl, Nat.zero_le _⟩
  | q :: qs => by
    obtain ⟨h1, h2⟩ := lay_pR qs
    exact ⟨by rw [List.map_cons, PyData.canLayAll0, h1]; rfl, by rw [List.map_cons, PyData.depthAll]; exact Nat.max_le.mpr ⟨Nat.le_refl 1, h2⟩⟩
theorem shaped_pRs (qs : List Rat) : SeqAt.shaped (.list (qs.map pR)) = true := by
  obtain ⟨h1, h2⟩ := lay_pR qs
  unfold SeqAt.shaped
  rw [Bool.and_eq_true, PyData.canLay0, PyData.depth]
  exact ⟨h1, decide_eq_true (by omega)⟩
theorem mapO_map {α β γ : Type} {f : β → Option γ} {g : α → β} {h : α → γ} (e : ∀ x, f (g x) = some (h x)) : ∀ xs : List α, mapO f (xs.map g) = some (xs.map h)
  | [] => rfl
  | x :: xs => by rw [List.map_cons, mapO, e, mapO_map e xs]; rfl
theorem py_rDs (M : MH) (n : Nat) (qs : List Rat) : mapO (pyD M (n + 2)) (qs.map rD) = some (qs.map pR) := mapO_map (fun q => py_rD M n q) qs
theorem py_list {M : MH} {p : Addr} {xs : List D} {ys : List PyData} {n : Nat} (h : M p = some (.lst xs)) (e : mapO (pyD M n) xs = some ys) : pyD M (n + 1) (.ref p) = some (.list ys) := by
  show (match M p with | some (.lst ds) => (mapO (pyD M n) ds).map PyData.list | _ => none) = _
  rw [h]
  show (mapO (pyD M n) xs).map PyData.list = _
  rw [e]; rfl
theorem any_pR (qs : List Rat) (x : Rat) : ((qs.map pR).any fun z => PyData.eqv z (pR x)) = decide (x ∈ qs) := by
  induction qs with
  | nil => rfl
  | cons q qs ih =>
    rw [List.map_cons, List.any_cons, ih, eqv_pR]
    by_cases h : q = x
    · subst h; simp
    · rw [decide_eq_false h, Bool.false_or]
      exact decide_eq_decide.mpr ⟨List.mem_cons_of_mem _, fun z => (List.mem_cons.mp z).resolve_left fun y => h y.symm⟩
theorem in_rDs {M : MH} {p : Addr} {qs : List Rat} (h : M p = some (.lst (qs.map rD))) (x : Rat) (Q : Pt) : oInN false (rD x) (.ref p) M Q = Q (.bl (decide (x ∈ qs))) M := by
  have e1 : pyD M pyN (rD x) = some (pR x) := rfl
  have e2 : pyD M pyN (.ref p) = some (.list (qs.map pR)) := py_list h (py_rDs M 9 qs)
  unfold oInN
  rw [e1, e2]
  simp only [shaped_pR, shaped_pRs, and_self, true_and, any_pR, Bool.false_eq_true, if_false]
theorem in_tup2 (M : MH) (a b x : Rat) (Q : Pt) : oInN false (rD x) (.tup [rD a, rD b]) M Q = Q (.bl (decide (x = a ∨ x = b))) M := by
  have e1 : pyD M pyN (rD x) = some (pR x) := rfl
  have e2 : pyD M pyN (.tup [rD a, rD b]) = some (.tuple [pR a, pR b]) := rfl
  have e3 := any_pR [a, b] x
  have e4 : SeqAt.shaped (.tuple [pR a, pR b]) = true := rfl
  unfold oInN
  rw [e1, e2]
  simp only [shaped_pR, e4, and_self, true_and, Bool.false_eq_true, if_false]
  simp only [List.map_cons, List.map_nil] at e3
  rw [e3]
  congr 2
  exact decide_eq_decide.mpr (by simp)
theorem eq_nil {M : MH} {p p2 : Addr} {qs : List Rat} (h : M p = some (.lst (qs.map rD))) (h2 : M p2 = some (.lst [])) (Q : Pt) : oEq (.ref p) (.ref p2) M Q = Q (.bl (decide (qs = []))) M := by
  have e1 : pyD M pyN (.ref p) = some (.list (qs.map pR)) := py_list h (py_rDs M 9 qs)
  have e2 : pyD M pyN (.ref p2) = some (.list []) := py_list h2 rfl
  show (match pyD M pyN (.ref p), pyD M pyN (.ref p2) with | some a, some b => (SeqAt.shaped a = true ∧ SeqAt.shaped b = true) ∧ Q (.bl (if false then !PyData.eqv a b else PyData.eqv a b)) M | _, _ => False) = _
  rw [e1, e2]
  have e3 : SeqAt.shaped (.list []) = true := rfl
  have e4 : PyData.eqv (.list (qs.map pR)) (.list []) = decide (qs = []) := by
    cases qs with
    | nil => simp only [List.map_nil, PyData.eqv, PyData.eqvAll]; rfl
    | cons q qs => simp only [List.map_cons, PyData.eqv, PyData.eqvAll]; simp
  simp only [shaped_pRs, e3, and_self, true_and, e4, Bool.false_eq_true, if_false]
theorem eq_str {a b : Str} {M : MH} {Q : Pt} : oEq (.str a) (.str b) M Q = Q (.bl (decide (a = b))) M := rfl
theorem ne_str {a b : Str} {M : MH} {Q : Pt} : oNe (.str a) (.str b) M Q = Q (.bl (!decide (a = b))) M := rfl

/-! ### repr -/
theorem big_dec : big ≤ 10 ^ 600 := by decide +kernel
theorem shown_int {i : Int} (h : i.natAbs < big) : (PyData.shown (.int i)).length ≤ 601 := by
  have e := int_text_length_le10 (k := 600) (a := i) (by decide) (Nat.lt_of_lt_of_le h big_dec)
  show (Str.ofString (toString i)).length ≤ 601
  rw [PySem.ofString_length]; exact e
theorem sum_le {B : Nat} : ∀ {xs : List PyData}, (∀ x ∈ xs, x.shown.length ≤ B) → ((PyData.shownAll xs).map (·.length)).sum ≤ xs.length * B
  | [], _ => by simp [PyData.shownAll]
  | x :: xs, h => by
    have h1 := h x List.mem_cons_self
    have h2 := sum_le (xs := xs) fun y hy => h y (List.mem_cons_of_mem _ hy)
    rw [PyData.shownAll, List.map_cons, List.sum_cons, List.length_cons, Nat.succ_mul]
    omega
theorem shown_tuple {B : Nat} {xs : List PyData} (h : ∀ x ∈ xs, x.shown.length ≤ B) : (PyData.shown (.tuple xs)).length ≤ xs.length * (B + 2) + 3 := by
  have h1 := tupleText_len_le (PyData.shownAll xs)
  have h2 := sum_le h
  rw [PyData.shownAll_length] at h1
  rw [PyData.shown, Nat.mul_add]
  omega
theorem shown_list {B : Nat} {xs : List PyData} (h : ∀ x ∈ xs, x.shown.length ≤ B) : (PyData.shown (.list xs)).length ≤ xs.length * (B + 2) + 3 := by
  have h1 := listText_len_le (PyData.shownAll xs)
  have h2 := sum_le h
  rw [PyData.shownAll_length] at h1
  rw [PyData.shown, Nat.mul_add]
  omega
/-- fit for repr, its text of at most B signs -/
structure Sh (B : Nat) (p : PyData) : Prop where
  s : p.showable = true
  n : p.hasDict = false
  d : p.depth ≤ 20
  l : p.shown.length ≤ B
theorem Sh.le {B C : Nat} {p : PyData} (h : Sh B p) (e : B ≤ C) : Sh C p := ⟨h.s, h.n, h.d, Nat.le_trans h.l e⟩
theorem Sh.int {i : Int} (h : i.natAbs < big) : Sh 601 (.int i) := ⟨by rw [PyData.showable]; exact decide_eq_true (Nat.lt_trans (big_log h) (by decide)), rfl, Nat.zero_le _, shown_int h⟩
theorem Sh.rat {q : Rat} (h : Ok q) : Sh 1209 (pR q) ∧ (pR q).depth = 1 := by
  have h1 := Sh.int h.1
  have h2 := Sh.int (i := q.den) (by rw [Int.natAbs_natCast]; exact h.2)
  refine ⟨⟨?_, rfl, show 1 ≤ 20 by decide, ?_⟩, rfl⟩
  · have a := h1.s
    have b := h2.s
    unfold pR
    simp only [PyData.showable, PyData.showableAll] at a b ⊢
    rw [a, b]; rfl
  · exact shown_tuple (B := 601) (xs := [.int q.num, .int q.den]) fun x hx => by
      rcases List.mem_cons.mp hx with rfl | hx
      · exact h1.l
      · rw [List.mem_singleton.mp hx]; exact h2.l
theorem sh_all {B k : Nat} : ∀ {xs : List PyData}, (∀ x ∈ xs, Sh B x ∧ x.depth ≤ k) → PyData.showableAll xs = true ∧ PyData.hasDictAll xs = false ∧ PyData.depthAll xs ≤ k
  | [], _ => ⟨rfl, rfl, Nat.zero_le _⟩
  | x :: xs, h => by
    obtain ⟨h1, h4⟩ := h x List.mem_cons_self
    obtain ⟨a, b, c⟩ := sh_all (xs := xs) fun y hy => h y (List.mem_cons_of_mem _ hy)
    refine ⟨by rw [PyData.showableAll, h1.s, a]; rfl, by rw [PyData.hasDictAll, h1.n, b]; rfl, by rw [PyData.depthAll]; exact Nat.max_le.mpr ⟨h4, c⟩⟩
theorem Sh.tuple {B k : Nat} {xs : List PyData} (h : ∀ x ∈ xs, Sh B x ∧ x.depth ≤ k) (hk : k < 20) : Sh (xs.length * (B + 2) + 3) (.tuple xs) ∧ (PyData.tuple xs).depth ≤ k + 1 := by
  obtain ⟨a, b, c⟩ := sh_all h
  have dp : (PyData.tuple xs).depth ≤ k + 1 := by rw [PyData.depth]; omega
  exact ⟨⟨by rw [PyData.showable]; exact a, by rw [PyData.hasDict]; exact b, by omega, shown_tuple fun x hx => (h x hx).1.l⟩, dp⟩
/-- repr of what is fit for it -/
theorem repr_of {d : D} {M : MH} {p : PyData} {B : Nat} (h : pyD M pyN d = some p) (s : Sh B p) (hB : B ≤ sizeLine) (np : ∀ i, p ≠ .int i) (nd : ∀ i, p ≠ .dict i) (Q : Pt) : Q (.str p.shown) M → bRepr [d] M Q := fun k => by
  unfold bRepr
  simp only [h]
  refine ⟨⟨s.s, s.n, Nat.le_trans s.d (by decide), Nat.le_trans s.l hB⟩, ?_, k⟩
  cases p with
  | int i => exact absurd rfl (np i)
  | dict i => exact absurd rfl (nd i)
  | _ => trivial
theorem repr_rat {q : Rat} (h : Ok q) {M : MH} {Q : Pt} (k : Q (.str (pR q).shown) M) : bRepr [rD q] M Q := repr_of (py_rD M 10 q) (Sh.rat h).1 (by decide) (fun _ => nofun) (fun _ => nofun) Q k

/-! ### dicts whose keys are ratios -/
theorem nk_rD (q : Rat) : nk (rD q) = some (.tup [.num q.num, .num q.den]) := rfl
theorem kEq_rD (a b : Rat) : kEq (rD a) (rD b) = decide (a = b) := by
  rw [kEq_iff (nk_rD a) (nk_rD b)]
  refine decide_eq_decide.mpr ⟨fun h => ?_, fun h => by rw [h]⟩
  injection h with h
  injection h with h1 h
  injection h with h2 h
  injection h1 with h1
  injection h2 with h2
  exact rD_inj.mp ⟨h1, h2⟩
theorem keyOk_rD (q : Rat) : keyOk (rD q) = true := rfl
def kvR (rows : List (Rat × Rat)) : List (D × D) := rows.map fun r => (rD r.1, rD r.2)
def rowD (r : Rat × Rat) : D := .tup [rD r.1, rD r.2]
theorem pairs_rows : ∀ rows : List (Rat × Rat), pairsO (rows.map rowD) = some (kvR rows)
  | [] => rfl
  | r :: rows => by
    rw [List.map_cons, pairsO, pairs_rows rows]
    rfl
theorem lookD_cons (p : D × D) (kvs : List (D × D)) (k : D) : lookD (p :: kvs) k = if kEq p.1 k = true then some p.2 else lookD kvs k := by
  unfold lookD
  rw [List.find?_cons]
  cases h : kEq p.1 k <;> simp
theorem lookD_none {rows : List (Rat × Rat)} {s : Rat} (h : ∀ r ∈ rows, r.1 ≠ s) : lookD (kvR rows) (rD s) = none := by
  induction rows with
  | nil => rfl
  | cons r rows ih =>
    show lookD ((rD r.1, rD r.2) :: kvR rows) (rD s) = none
    rw [lookD_cons, kEq_rD, if_neg (by simpa using h r List.mem_cons_self), ih fun y hy => h y (List.mem_cons_of_mem _ hy)]
theorem lookD_some {rows : List (Rat × Rat)} {s w : Rat} (hd : rows.Pairwise fun a b => a.1 ≠ b.1) (h : (s, w) ∈ rows) : lookD (kvR rows) (rD s) = some (rD w) := by
  induction rows with
  | nil => cases h
  | cons r rows ih =>
    show lookD ((rD r.1, rD r.2) :: kvR rows) (rD s) = _
    rw [lookD_cons, kEq_rD]
    obtain ⟨h1, h2⟩ := List.pairwise_cons.mp hd
    rcases List.mem_cons.mp h with e | e
    · subst e; simp
    · rw [if_neg (by simpa using h1 _ e)]
      exact ih h2 e
theorem merge_rows : ∀ (more rows : List (Rat × Rat)), (rows ++ more).Pairwise (fun a b => a.1 ≠ b.1) → mergeD (kvR rows) (kvR more) = kvR (rows ++ more)
  | [], rows, _ => by rw [List.append_nil]; rfl
  | r :: more, rows, h => by
    have e1 : putD (kvR rows) (rD r.1) (rD r.2) = kvR (rows ++ [r]) := by
      unfold putD
      rw [lookD_none]
      · simp [kvR]
      · intro y hy
        rw [List.pairwise_append] at h
        exact h.2.2 y hy r List.mem_cons_self
    show mergeD (putD (kvR rows) (rD r.1) (rD r.2)) (kvR more) = _
    rw [e1, merge_rows more (rows ++ [r]) (by simpa using h)]
    simp
theorem dict_rows {rows : List (Rat × Rat)} (h : rows.Pairwise fun a b => a.1 ≠ b.1) (hl : rows.length ≤ sizeLine) {M : MH} {Q : Pt} (k : ∀ p, M p = none → Q (.ref p) (updM M p (.dic (kvR rows)))) : bDictN [.ptup (rows.map rowD)] M Q := by
  unfold bDictN
  simp only [pairs_rows]
  refine ⟨?_, by rw [List.length_map]; exact hl, ?_⟩
  · rw [List.all_eq_true]
    intro x hx
    obtain ⟨r, _, rfl⟩ := List.mem_map.mp hx
    rfl
  · have := merge_rows rows [] (by simpa using h)
    rw [show mergeD [] (kvR rows) = mergeD (kvR []) (kvR rows) from rfl, this, List.nil_append]
    exact k
theorem ix_dic {M : MH} {p : Addr} {rows : List (Rat × Rat)} (hp : M p = some (.dic (kvR rows))) {s w : Rat} (hd : rows.Pairwise fun a b => a.1 ≠ b.1) (h : (s, w) ∈ rows) (Q : Pt) : oIxD (.ref p) (rD s) M Q = Q (rD w) M := by
  have e : dicO M (.ref p) = some (kvR rows) := by
    show (match M p with | some (.dic ks) => some ks | some (.dicL ks) => some ks | _ => none) = _
    rw [hp]
  unfold oIxD
  simp only [e, keyOk_rD, true_and, lookD_some hd h]
end Pz


set_option Elab.async false
set_option linter.all false
set_option autoImplicit false
set_option maxRecDepth 100000
set_option maxHeartbeats 4000000
/-! Tables drawn; mixtures: the law k14. -/
namespace Pz
open PySem PySem.Spec L2
open PyProof.Rows hiding St

def Keep (M M' : MH) : Prop := ∀ c o, M c = some o → M' c = some o
theorem Keep.refl (M : MH) : Keep M M := fun _ _ h => h
theorem Keep.trans {M M1 M2 : MH} (h : Keep M M1) (k : Keep M1 M2) : Keep M M2 := fun c o e => k c o (h c o e)
theorem Keep.new {M : MH} {p : Addr} {o : MO} (h : M p = none) : Keep M (updM M p o) := fun c u e => by
  rw [updM_ne]; exact e
  rintro rfl; rw [h] at e; cases e
theorem Tape.keep {M M' : MH} {t : Tp} {n : Nat} (h : Tape M t n) (k : Keep M M') : Tape M' t n := by
  obtain ⟨ns, i, j, k', h0, h1, h2, h3⟩ := h
  exact ⟨ns, i, j, k', h0, k _ _ h1, k _ _ h2, h3⟩
theorem Ext.keep {M M1 M2 : MH} {t : Tp} {n : Nat} (h : Ext t n M M1) (k : Keep M1 M2) : Ext t n M M2 := ⟨h.t.keep k, fun c o ne e => k _ _ (h.k c o ne e)⟩

abbrev Rows2 := List (Rat × Rat)
def tblD (rows : Rows2) : D := .tup [.str "table", .ptup (rows.map rowD)]
def mixD (rows : Rows2) : D := .tup (rows.map rowD)
theorem tbl0 (rows : Rows2) (M : MH) (Q : Pt) : oIxD (tblD rows) (.int 0) M Q = Q (.str "table") M := rfl
theorem tbl1 (rows : Rows2) (M : MH) (Q : Pt) : oIxD (tblD rows) (.int 1) M Q = Q (.ptup (rows.map rowD)) M := rfl
theorem row0 (r : Rat × Rat) (M : MH) (Q : Pt) : oIxD (rowD r) (.int 0) M Q = Q (rD r.1) M := rfl
theorem row1 (r : Rat × Rat) (M : MH) (Q : Pt) : oIxD (rowD r) (.int 1) M Q = Q (rD r.2) M := rfl
def cc : Nat := 1000000007
theorem LL_pos : 0 < LL := by decide +kernel
theorem LL2_pos : 0 < LL * LL := by decide +kernel
structure TbOk (rows : Rows2) : Prop where
  inc : rows.Pairwise fun a b => a.1 < b.1
  l1 : 2 ≤ rows.length
  l2 : rows.length ≤ 12
  s : ∀ r ∈ rows, Ft LL (12 * cc) r.1
  p : ∀ r ∈ rows, Ft (LL * LL) (200 * cc * cc) r.2
theorem TbOk.ne {rows : Rows2} (h : TbOk rows) : rows.Pairwise fun a b => a.1 ≠ b.1 := h.inc.imp fun z => Rat.ne_of_lt z
theorem okS {q : Rat} (h : Ft LL (12 * cc) q) : Ok q := h.ok LL_pos (by decide +kernel) (by decide +kernel)
theorem okP {q : Rat} (h : Ft (LL * LL) (200 * cc * cc) q) : Ok q := h.ok LL2_pos (by decide +kernel) (by decide +kernel)
def spTable : Spec := fun ds M Q _ => ∃ (t : Tp) (n : Nat), ds = [.ref t.a] ∧ Tape M t (n + 140) ∧ ∀ rows M', TbOk rows → Ext t n M M' → Q (tblD rows) M'
def cTable (iP iD iA iT : Nat) : List Sx := [.set 1 (.lst [.tup [.tup [.lit (.int 0), .lit (.int 1)], .ix (.lst [.tup [.lit (.int 0), .lit (.int 1)], .call iP [.var 0]]) (.call iD [.var 0, .lit (.int 2)])]]), .set 2 (.call iP [.var 0]), .for_ (.nm 3) .r1 (.ix (.lst [.lit (.int 1), .lit (.int 2), .lit (.int 3), .lit (.int 5), .lit (.int 11)]) (.call iD [.var 0, .lit (.int 5)])) (.ix (.lst [.lit (.int 1), .lit (.int 2), .lit (.int 3), .lit (.int 5), .lit (.int 11)]) (.call iD [.var 0, .lit (.int 5)])) [.set 4 (.call iP [.var 0]), .setT false [5, 6] (.ix (.var 1) (.neg (.lit (.int 1)))), .ex (.mth .append (.var 1) [.tup [.call iA [.var 5, .var 4], .call iA [.var 6, .call iT [.var 2, .var 4]]]]), .ife (.cmp .gt (.call iD [.var 0, .lit (.int 4)]) (.lit (.int 0))) [.set 2 (.call iA [.var 2, .call iP [.var 0]])] []], .ret (.tup [.lit (.str "table"), .blt .tup [.var 1]])]
theorem atLast {α : Type} (xs : List α) (x : α) : atI (xs ++ [x]) (-1) = some x := by
  unfold atI ixN
  rw [if_neg (by decide), if_pos (by simp only [List.length_append, List.length_singleton]; omega)]
  show (xs ++ [x])[(-1 + ((xs ++ [x]).length : Int)).toNat]? = some x
  have : (-1 + ((xs ++ [x]).length : Int)).toNat = xs.length := by simp only [List.length_append, List.length_singleton]; omega
  rw [this, List.getElem?_append_right (Nat.le_refl _)]
  simp
theorem appL {a : Addr} {M : MH} {xs : List D} (h : M a = some (.lst xs)) (y : D) (Q : Pt) : mAppend (.ref a) [y] M Q = (xs.length < sizeLine ∧ Q .non (updM M a (.lst (xs ++ [y])))) := by
  show (match M a with | some (.lst xs) => xs.length < sizeLine ∧ Q .non (updM M a (.lst (xs ++ [y]))) | _ => False) = _
  rw [h]
theorem tyL {a : Addr} {M : MH} {xs : List D} (h : M a = some (.lst xs)) : tyLis M (.ref a) = True := by
  show (match M a with | some (.lst _) => True | _ => False) = True
  rw [h]
theorem rgOk_small {i : Int} (h0 : 0 ≤ i) (h : i ≤ 1000000) : rgOk i := ⟨by omega, by omega⟩

section
variable {sp : Nat → Spec} {M : MH} {Q : Pt} {R : XPt} {ds : List D}
/-- what a table in the making is -/
structure Mk (i : Nat) (rows : Rows2) (slope : Rat) : Prop where
  inc : rows.Pairwise fun a b => a.1 < b.1
  len : rows.length = i + 1
  i11 : i ≤ 11
  s : ∀ r ∈ rows, Ft LL (i * cc) r.1
  p : ∀ r ∈ rows, Ft (LL * LL) (cc + i * (12 * cc * cc)) r.2
  sl : Ft LL ((i + 1) * cc) slope
theorem Mk.next {i : Nat} {rows : Rows2} {slope step : Rat} {last : Rat × Rat} (h : Mk i (rows ++ [last]) slope) (hi : i < 11) (ps : Prt step) : ∀ more, Ft LL ((i + 1) * cc) more ∨ (∃ q, Prt q ∧ more = slope + q) →
    (more = slope ∨ ∃ q, Prt q ∧ more = slope + q) → Mk (i + 1) ((rows ++ [last]) ++ [(last.1 + step, last.2 + slope * step)]) more := by
  intro more _ hm
  have hin : last ∈ rows ++ [last] := List.mem_append_right _ List.mem_cons_self
  have hs := h.s last hin
  have hp := h.p last hin
  refine ⟨?_, by rw [List.length_append, h.len]; rfl, by omega, ?_, ?_, ?_⟩
  · rw [List.pairwise_append]
    refine ⟨h.inc, List.pairwise_singleton _ _, fun a ha b hb => ?_⟩
    rw [List.mem_singleton] at hb; subst hb
    have a1 : a.1 ≤ last.1 := by
      rcases List.mem_append.mp ha with ha | ha
      · have := h.inc
        rw [List.pairwise_append] at this
        exact Rat.le_of_lt (this.2.2 a ha last List.mem_cons_self)
      · rw [List.mem_singleton.mp ha]; exact Rat.le_refl
    have := ps.1
    show a.1 < last.1 + step
    grind
  · intro r hr
    rcases List.mem_append.mp hr with hr | hr
    · exact (h.s r hr).mono ⟨1, by omega⟩ (Nat.mul_le_mul_right _ (by omega))
    · rw [List.mem_singleton.mp hr]
      have := hs.add LL_pos ps.ft
      exact this.mono ⟨1, by omega⟩ (by unfold cc; omega)
  · intro r hr
    rcases List.mem_append.mp hr with hr | hr
    · exact (h.p r hr).mono ⟨1, by omega⟩ (Nat.add_le_add_left (Nat.mul_le_mul_right _ (by omega)) _)
    · rw [List.mem_singleton.mp hr]
      have := hp.add LL2_pos (h.sl.mul LL_pos LL_pos ps.ft)
      refine this.mono ⟨1, by omega⟩ ?_
      have e : (i + 1) * (12 * cc * cc) = i * (12 * cc * cc) + 12 * cc * cc := Nat.succ_mul _ _
      have e2 : (i + 1) * cc * 1000000007 ≤ 12 * cc * cc := Nat.mul_le_mul_right _ (Nat.mul_le_mul_right _ (by omega))
      omega
  · rcases hm with rfl | ⟨q, hq, rfl⟩
    · exact h.sl.mono ⟨1, by omega⟩ (Nat.mul_le_mul_right _ (by omega))
    · exact (h.sl.add LL_pos hq.ft).mono ⟨1, by omega⟩ (by unfold cc; omega)
theorem Mk.ok {i : Nat} {rows : Rows2} {slope : Rat} (h : Mk i rows slope) (hi : 1 ≤ i) : TbOk rows := by
  have := h.i11
  refine ⟨h.inc, by rw [h.len]; omega, by rw [h.len]; omega, fun r hr => (h.s r hr).mono ⟨1, by omega⟩ (Nat.mul_le_mul_right _ (by omega)), fun r hr => (h.p r hr).mono ⟨1, by omega⟩ ?_⟩
  have e : cc + 11 * (12 * cc * cc) ≤ 200 * cc * cc := by decide +kernel
  have e2 : i * (12 * cc * cc) ≤ 11 * (12 * cc * cc) := Nat.mul_le_mul_right _ this
  omega
theorem nrm_row (r : Rat × Rat) : (rowD r).nrm = .tup [rD r.1, rD r.2] := rfl
theorem okF {m b : Nat} {q : Rat} (h : Ft m b q) (hm : 0 < m) (h1 : m < big) {c : Nat} (hb : b ≤ c) (h2 : c * m < big) : Ok q := h.ok hm h1 (Nat.lt_of_le_of_lt (Nat.mul_le_mul_right _ hb) h2)
theorem table_loop {iP iD iA iT : Nat} (hP : sp iP = spPart) (hD : sp iD = spDraw) (hA : sp iA = spPlus) (hT : sp iT = spTimes) {t : Tp} {p : Addr} {M0 : MH} (p0 : M0 p = none) (pa : p ≠ t.a) (pb : p ≠ t.b) {n : Nat} {E : ME} :
    ∀ (ds : List D) (i : Nat) (rows : Rows2) (last : Rat × Rat) (slope : Rat) (M : MH) (x3 x4 x5 x6 : Option D), Mk i (rows ++ [last]) slope → i + ds.length ≤ 11 → M p = some (.lst (rows.map rowD ++ [rowD last])) → Ext t (n + 11 * ds.length) M0 M →
    (∀ rows' slope' M' x3 x4 x5 x6, Mk (i + ds.length) rows' slope' → M' p = some (.lst (rows'.map rowD)) → Ext t n M0 M' → E.nx [some (.ref t.a), some (.ref p), some (rD slope'), x3, x4, x5, x6] M') →
    goFor (tgN 3) (fun _ => True) (wpSs sp R [.set 4 (.call iP [.var 0]), .setT false [5, 6] (.ix (.var 1) (.neg (.lit (.int 1)))), .ex (.mth .append (.var 1) [.tup [.call iA [.var 5, .var 4], .call iA [.var 6, .call iT [.var 2, .var 4]]]]), .ife (.cmp .gt (.call iD [.var 0, .lit (.int 4)]) (.lit (.int 0))) [.set 2 (.call iA [.var 2, .call iP [.var 0]])] []]) E ds
      [some (.ref t.a), some (.ref p), some (rD slope), x3, x4, x5, x6] M
  | [], i, rows, last, slope, M, x3, x4, x5, x6, mk, hi, hp, ex, hE => ⟨trivial, hE _ _ _ _ _ _ _ mk (by rw [hp]; simp) (ex.le (by simp))⟩
  | d :: ds, i, rows, last, slope, M, x3, x4, x5, x6, mk, hi, hp, ex, hE => by
    have hi' : i + 1 + ds.length ≤ 11 := by simp only [List.length_cons] at hi; omega
    have eL : i + (d :: ds).length = i + 1 + ds.length := by simp only [List.length_cons]; omega
    rw [eL] at hE
    refine ⟨trivial, ?_⟩
    simp only [tgN, List.set_cons_succ, List.set_cons_zero]
    refine vs_cons ?_
    simp only [wpS, wpE, wpEs, wDrop, wRet, wRetN, wSet, wSetT, wPar, wStI, wVar, wLit, wBin, wUn, wCons, wNil, wTup, wLst, wIsN, wCh2, wSl, wpoS, wpoN, wCallF, wCall, wMth, Bo.op, Co.op, Bf.op, Mn.op, oAdd, oSub, oMul, oFdiv, oMod, oPow, oLt, oLe, oGt, oGe, oCmp, isB, isI, uNeg, D.nrm, bAbs, ixD_num, ixD_den, nrm_rD, wNext, wBrk, wCnt, wRetN, setAll, wFor, wpIk, wiV, wiR1, wiR2, Tn.tgt, Tn.is, wAnd, wOr, wNot, wIf, wIfS, List.getElem?_cons_zero, List.getElem?_cons_succ, List.set_cons_zero, List.set_cons_succ, List.map_cons, List.map_nil, List.length_cons, List.length_nil, List.cons_append, List.nil_append, List.append_nil, List.replicate, reduceIte, Bool.false_eq_true, Nat.zero_add, Nat.reduceAdd, Nat.reduceSub, Int.cast_ofNat_Int, Option.isSome_some, Option.isSome_none, reduceCtorEq, hP]
    refine ⟨t, n + 11 * ds.length + 6, rfl, ex.t.le (by simp only [List.length_cons]; omega), fun step M1 hs e1 => ?_⟩
    have g1 := e1.get pa hp
    have hin : last ∈ rows ++ [last] := List.mem_append_right _ List.mem_cons_self
    have i11 : i ≤ 10 := by omega
    have oS : Ok last.1 := okF (mk.s last hin) LL_pos (by decide +kernel) (c := 12 * cc) (Nat.mul_le_mul_right _ (by omega)) (by decide +kernel)
    have oP : Ok last.2 := okF (mk.p last hin) LL2_pos (by decide +kernel) (c := cc + 11 * (12 * cc * cc)) (Nat.add_le_add_left (Nat.mul_le_mul_right _ (by omega)) _) (by decide +kernel)
    have oSl : Ok slope := okF mk.sl LL_pos (by decide +kernel) (c := 12 * cc) (Nat.mul_le_mul_right _ (by omega)) (by decide +kernel)
    have oSt : Ok step := hs.ft.ok LL_pos (by decide +kernel) (by decide +kernel)
    have oM : Ok (slope * step) := okF (mk.sl.mul LL_pos LL_pos hs.ft) LL2_pos (by decide +kernel) (c := 12 * cc * cc) (Nat.mul_le_mul_right _ (Nat.mul_le_mul_right _ (by omega))) (by decide +kernel)
    refine vs_cons ?_
    simp only [wpS, wpE, wpEs, wDrop, wRet, wRetN, wSet, wSetT, wPar, wStI, wVar, wLit, wBin, wUn, wCons, wNil, wTup, wLst, wIsN, wCh2, wSl, wpoS, wpoN, wCallF, wCall, wMth, Bo.op, Co.op, Bf.op, Mn.op, oAdd, oSub, oMul, oFdiv, oMod, oPow, oLt, oLe, oGt, oGe, oCmp, isB, isI, uNeg, D.nrm, bAbs, ixD_num, ixD_den, nrm_rD, wNext, wBrk, wCnt, wRetN, setAll, wFor, wpIk, wiV, wiR1, wiR2, Tn.tgt, Tn.is, wAnd, wOr, wNot, wIf, wIfS, List.getElem?_cons_zero, List.getElem?_cons_succ, List.set_cons_zero, List.set_cons_succ, List.map_cons, List.map_nil, List.length_cons, List.length_nil, List.cons_append, List.nil_append, List.append_nil, List.replicate, reduceIte, Bool.false_eq_true, Nat.zero_add, Nat.reduceAdd, Nat.reduceSub, Int.cast_ofNat_Int, Option.isSome_some, Option.isSome_none, reduceCtorEq, ixL g1, atLast, nrm_row]
    refine vs_cons ?_
    simp only [wpS, wpE, wpEs, wDrop, wRet, wRetN, wSet, wSetT, wPar, wStI, wVar, wLit, wBin, wUn, wCons, wNil, wTup, wLst, wIsN, wCh2, wSl, wpoS, wpoN, wCallF, wCall, wMth, Bo.op, Co.op, Bf.op, Mn.op, oAdd, oSub, oMul, oFdiv, oMod, oPow, oLt, oLe, oGt, oGe, oCmp, isB, isI, uNeg, D.nrm, bAbs, ixD_num, ixD_den, nrm_rD, wNext, wBrk, wCnt, wRetN, setAll, wFor, wpIk, wiV, wiR1, wiR2, Tn.tgt, Tn.is, wAnd, wOr, wNot, wIf, wIfS, List.getElem?_cons_zero, List.getElem?_cons_succ, List.set_cons_zero, List.set_cons_succ, List.map_cons, List.map_nil, List.length_cons, List.length_nil, List.cons_append, List.nil_append, List.append_nil, List.replicate, reduceIte, Bool.false_eq_true, Nat.zero_add, Nat.reduceAdd, Nat.reduceSub, Int.cast_ofNat_Int, Option.isSome_some, Option.isSome_none, reduceCtorEq, tyL g1, hA, hT, true_and]
    refine ⟨_, _, rfl, oS, oSt, _, _, rfl, oSl, oSt, _, _, rfl, oP, oM, by decide, ?_⟩
    rw [appL g1]
    refine ⟨?_, ?_⟩
    · have := mk.len
      rw [List.length_append, List.length_singleton] at this
      rw [List.length_append, List.length_singleton, List.length_map, this]
      exact Nat.lt_of_le_of_lt (show i + 1 ≤ 12 by omega) (by decide)
    have ex1 : Ext t (n + 11 * ds.length + 6) M0 (updM M1 p (.lst (rows.map rowD ++ [rowD last] ++ [rowD (last.1 + step, last.2 + slope * step)]))) := (ex.trans e1).set p0 pa pb
    refine vs_cons ?_
    simp only [wpS, wpE, wpEs, wDrop, wRet, wRetN, wSet, wSetT, wPar, wStI, wVar, wLit, wBin, wUn, wCons, wNil, wTup, wLst, wIsN, wCh2, wSl, wpoS, wpoN, wCallF, wCall, wMth, Bo.op, Co.op, Bf.op, Mn.op, oAdd, oSub, oMul, oFdiv, oMod, oPow, oLt, oLe, oGt, oGe, oCmp, isB, isI, uNeg, D.nrm, bAbs, ixD_num, ixD_den, nrm_rD, wNext, wBrk, wCnt, wRetN, setAll, wFor, wpIk, wiV, wiR1, wiR2, Tn.tgt, Tn.is, wAnd, wOr, wNot, wIf, wIfS, List.getElem?_cons_zero, List.getElem?_cons_succ, List.set_cons_zero, List.set_cons_succ, List.map_cons, List.map_nil, List.length_cons, List.length_nil, List.cons_append, List.nil_append, List.append_nil, List.replicate, reduceIte, Bool.false_eq_true, Nat.zero_add, Nat.reduceAdd, Nat.reduceSub, Int.cast_ofNat_Int, Option.isSome_some, Option.isSome_none, reduceCtorEq, hD]
    refine ⟨t, 4, n + 11 * ds.length + 5, rfl, ex1.t, by decide, by decide, fun j M2 hj e2 => ?_⟩
    have g2 := e2.get pa updM_same
    have em : rows.map rowD ++ [rowD last] = (rows ++ [last]).map rowD := by rw [List.map_append]; rfl
    rw [em] at g2
    simp only [wpS, wpE, wpEs, wDrop, wRet, wRetN, wSet, wSetT, wPar, wStI, wVar, wLit, wBin, wUn, wCons, wNil, wTup, wLst, wIsN, wCh2, wSl, wpoS, wpoN, wCallF, wCall, wMth, Bo.op, Co.op, Bf.op, Mn.op, oAdd, oSub, oMul, oFdiv, oMod, oPow, oLt, oLe, oGt, oGe, oCmp, isB, isI, uNeg, D.nrm, bAbs, ixD_num, ixD_den, nrm_rD, wNext, wBrk, wCnt, wRetN, setAll, wFor, wpIk, wiV, wiR1, wiR2, Tn.tgt, Tn.is, wAnd, wOr, wNot, wIf, wIfS, List.getElem?_cons_zero, List.getElem?_cons_succ, List.set_cons_zero, List.set_cons_succ, List.map_cons, List.map_nil, List.length_cons, List.length_nil, List.cons_append, List.nil_append, List.append_nil, List.replicate, reduceIte, Bool.false_eq_true, Nat.zero_add, Nat.reduceAdd, Nat.reduceSub, Int.cast_ofNat_Int, Option.isSome_some, Option.isSome_none, reduceCtorEq]
    split
    · refine vs_cons ?_
      simp only [wpS, wpE, wpEs, wDrop, wRet, wRetN, wSet, wSetT, wPar, wStI, wVar, wLit, wBin, wUn, wCons, wNil, wTup, wLst, wIsN, wCh2, wSl, wpoS, wpoN, wCallF, wCall, wMth, Bo.op, Co.op, Bf.op, Mn.op, oAdd, oSub, oMul, oFdiv, oMod, oPow, oLt, oLe, oGt, oGe, oCmp, isB, isI, uNeg, D.nrm, bAbs, ixD_num, ixD_den, nrm_rD, wNext, wBrk, wCnt, wRetN, setAll, wFor, wpIk, wiV, wiR1, wiR2, Tn.tgt, Tn.is, wAnd, wOr, wNot, wIf, wIfS, List.getElem?_cons_zero, List.getElem?_cons_succ, List.set_cons_zero, List.set_cons_succ, List.map_cons, List.map_nil, List.length_cons, List.length_nil, List.cons_append, List.nil_append, List.append_nil, List.replicate, reduceIte, Bool.false_eq_true, Nat.zero_add, Nat.reduceAdd, Nat.reduceSub, Int.cast_ofNat_Int, Option.isSome_some, Option.isSome_none, reduceCtorEq, hP, hA]
      refine ⟨t, n + 11 * ds.length, rfl, e2.t, fun q M3 hq e3 => ?_⟩
      refine ⟨_, _, rfl, oSl, hq.ft.ok LL_pos (by decide +kernel) (by decide +kernel), ?_⟩
      simp only [nil_eq]
      exact table_loop hP hD hA hT p0 pa pb ds (i + 1) (rows ++ [last]) _ (slope + q) M3 _ _ _ _ (mk.next (by omega) hs _ (.inr ⟨q, hq, rfl⟩) (.inr ⟨q, hq, rfl⟩)) hi' (e3.get pa g2) ((ex1.trans e2).trans e3) hE
    · simp only [nil_eq]
      exact table_loop hP hD hA hT p0 pa pb ds (i + 1) (rows ++ [last]) _ slope M2 _ _ _ _ (mk.next (by omega) hs _ (.inl (mk.sl.mono ⟨1, by omega⟩ (Nat.mul_le_mul_right _ (by omega)))) (.inl rfl)) hi' g2 ((ex1.trans e2).le (by omega)) hE
end
end Pz


set_option Elab.async false
set_option linter.all false
set_option autoImplicit false
set_option maxRecDepth 100000
set_option maxHeartbeats 4000000
/-! Mixtures: the plain law. -/
namespace Pz
open PySem PySem.Spec L2
open PyProof.Rows hiding St

/-- what a mixture is due to be -/
def dueM : Rows2 → Rat → Rows2
  | a :: b :: r, x => if x = a.1 ∨ x = b.1 then [(x, 1)] else if a.1 < x ∧ x < b.1 then [(a.1, 1 - (x - a.1) / (b.1 - a.1)), (b.1, (x - a.1) / (b.1 - a.1))] else dueM (b :: r) x
  | _, _ => []
/-- the power at a speed -/
def powR : Rows2 → Rat → Rat
  | a :: b :: r, x => if b.1 < x then powR (b :: r) x else a.2 + (b.2 - a.2) / (b.1 - a.1) * (x - a.1)
  | _, _ => 0
def pw (rows : Rows2) (s : Rat) : Rat := ((rows.find? fun r => decide (r.1 = s)).map (·.2)).getD 0
theorem pw_of {rows : Rows2} (hd : rows.Pairwise fun a b => a.1 ≠ b.1) {s p : Rat} (h : (s, p) ∈ rows) : pw rows s = p := by
  induction rows with
  | nil => cases h
  | cons r rows ih =>
    unfold pw
    rw [List.find?_cons]
    obtain ⟨h1, h2⟩ := List.pairwise_cons.mp hd
    rcases List.mem_cons.mp h with e | e
    · subst e; simp
    · rw [decide_eq_false (h1 _ e)]
      exact ih h2 e
def mixP (rows mix : Rows2) : Rat := sumR (mix.map fun e => pw rows e.1 * e.2)
structure InB (rows : Rows2) (x : Rat) : Prop where
  lo : ∃ r ∈ rows, r.1 ≤ x
  hi : ∃ r ∈ rows, x ≤ r.1
  ft : Ft (LL * LL) (36 * cc) x
structure MixOk (rows mix : Rows2) (w : Nat) : Prop where
  len : mix.length ≤ 12
  w0 : 0 < w
  w1 : w ≤ 24 * cc * (LL * LL)
  e : ∀ e ∈ mix, (∃ p, (e.1, p) ∈ rows) ∧ Ft w 1 e.2
theorem le_pos {w : Nat} (h : w ≤ 24 * cc * (LL * LL)) : w < big := Nat.lt_of_le_of_lt h (by decide +kernel)
theorem MixOk.ok {rows mix : Rows2} {w : Nat} (h : MixOk rows mix w) {e : Rat × Rat} (he : e ∈ mix) : Ok e.2 := (h.e e he).2.ok h.w0 (le_pos h.w1) (by rw [Nat.one_mul]; exact le_pos h.w1)
theorem MixOk.sum {rows mix : Rows2} {w : Nat} (t : TbOk rows) (h : MixOk rows mix w) : SumOk (mix.map fun e => pw rows e.1 * e.2) (LL * LL * w) (200 * cc * cc * 1) := by
  have big1 : LL * LL * (24 * cc * (LL * LL)) < big := by decide +kernel
  have big2 : 12 * (200 * cc * cc * 1) * (LL * LL * (24 * cc * (LL * LL))) < big := by decide +kernel
  have hw : LL * LL * w ≤ LL * LL * (24 * cc * (LL * LL)) := Nat.mul_le_mul_left _ h.w1
  refine ⟨Nat.mul_pos LL2_pos h.w0, ?_, Nat.lt_of_le_of_lt hw big1, ?_⟩
  · intro q hq
    obtain ⟨e, he, rfl⟩ := List.mem_map.mp hq
    obtain ⟨⟨p, hp⟩, hf⟩ := h.e e he
    rw [pw_of t.ne hp]
    exact (t.p _ hp).mul LL2_pos h.w0 hf
  · rw [List.length_map]
    refine Nat.lt_of_le_of_lt (Nat.mul_le_mul (Nat.mul_le_mul_right _ h.len) hw) big2
theorem SumOk.part {qs : List Rat} {m b : Nat} (h : SumOk qs m b) {q : Rat} (hq : q ∈ qs) : Ok q := by
  refine (h.ft q hq).ok h.m0 h.mb (one_mul_lt ?_ h.bb)
  exact List.length_pos_of_mem hq
theorem sum_ft {m b : Nat} (m0 : 0 < m) : ∀ (qs : List Rat) (acc : Rat) (k : Nat), Ft m (k * b) acc → (∀ q ∈ qs, Ft m b q) → Ft m ((k + qs.length) * b) (qs.foldl (· + ·) acc)
  | [], acc, k, h, _ => h
  | q :: qs, acc, k, h, hq => by
    have h1 := h.add m0 (hq q List.mem_cons_self)
    rw [← Nat.succ_mul] at h1
    have := sum_ft m0 qs (acc + q) (k + 1) h1 fun y hy => hq y (List.mem_cons_of_mem _ hy)
    have e : k + (q :: qs).length = k + 1 + qs.length := by simp only [List.length_cons]; omega
    rw [e]; exact this
theorem SumOk.ftSum {qs : List Rat} {m b : Nat} (h : SumOk qs m b) : Ft m (qs.length * b) (sumR qs) := by
  have := sum_ft h.m0 qs 0 0 (by rw [Nat.zero_mul]; exact Ft.zero m 0) h.ft
  rw [Nat.zero_add] at this; exact this
theorem SumOk.total {qs : List Rat} {m b : Nat} (h : SumOk qs m b) : Ok (sumR qs) := h.ftSum.ok h.m0 h.mb h.bb

/-- a part between two speeds -/
theorem part_of {a b x : Rat} (ha : Ft LL (12 * cc) a) (hb : Ft LL (12 * cc) b) (hx : Ft (LL * LL) (36 * cc) x) (ab : a < b) (h1 : a ≤ x) (h2 : x ≤ b) :
    ∃ w, 0 < w ∧ w ≤ 24 * cc * (LL * LL) ∧ Ft w 1 ((x - a) / (b - a)) ∧ Ft w 1 (1 - (x - a) / (b - a)) := by
  have pd : 0 < b - a := by grind
  have dv : LL ∣ LL * LL := ⟨LL, rfl⟩
  obtain ⟨w, w0, _, w1, w2⟩ := Ft.div_den LL2_pos (hx.sub LL2_pos (ha.mono dv (Nat.le_refl _))).d ((hb.sub LL_pos ha).mono dv (Nat.le_refl (12 * cc + 12 * cc))) pd
  have i0 : 0 < (b - a)⁻¹ := Rat.inv_pos.mpr pd
  have t0 : 0 ≤ (x - a) / (b - a) := by
    rw [Rat.div_def]
    exact Rat.mul_nonneg (by grind) (Rat.le_of_lt i0)
  have nz : b - a ≠ 0 := fun z => by rw [z] at pd; exact absurd pd Rat.lt_irrefl
  have t1 : (x - a) / (b - a) ≤ 1 := by
    refine Rat.le_of_mul_le_mul_right (c := b - a) ?_ pd
    rw [Rat.div_mul_cancel nz, Rat.one_mul]
    grind
  have c1 : ((1 : Nat) : Rat) = 1 := rfl
  refine ⟨w, w0, by simpa [← Nat.two_mul, ← Nat.mul_assoc] using w1, ⟨w2, by rw [c1]; grind, by rw [c1]; exact t1⟩, ⟨?_, by rw [c1]; grind, by rw [c1]; grind⟩⟩
  exact den_sub_dvd w0 ⟨w, by simp⟩ w2
/-- the slope between two rows, the way it is reckoned -/
theorem slope_ok {a b : Rat × Rat} {rows : Rows2} (t : TbOk rows) (ha : a ∈ rows) (hb : b ∈ rows) (ab : a.1 < b.1) : ∃ w, 0 < w ∧ w ≤ 24 * cc * (LL * LL) ∧ Ft w (400 * cc * cc * LL) ((b.2 - a.2) / (b.1 - a.1)) := by
  have pd : 0 < b.1 - a.1 := by grind
  have dv : LL ∣ LL * LL := ⟨LL, rfl⟩
  have fs := (t.s b hb).sub LL_pos (t.s a ha)
  have fp := (t.p b hb).sub LL2_pos (t.p a ha)
  obtain ⟨w, w0, _, w1, w2⟩ := Ft.div_den LL2_pos fp.d (fs.mono dv (Nat.le_refl _)) pd
  have nz : b.1 - a.1 ≠ 0 := fun z => by rw [z] at pd; exact absurd pd Rat.lt_irrefl
  -- the step is at least 1 / LL
  obtain ⟨z, hz⟩ := (den_dvd LL_pos).mp fs.d
  have pL : (0 : Rat) < (LL : Rat) := Rat.natCast_pos.mpr LL_pos
  have pz : (0 : Rat) < (z : Rat) := by rw [← hz]; exact Rat.mul_pos pd pL
  have pz' : 1 ≤ z := Rat.intCast_pos.mp pz
  have one : (1 : Rat) ≤ (b.1 - a.1) * (LL : Rat) := by
    rw [hz]
    exact Rat.intCast_le_intCast.mpr pz'
  have bound : ∀ p : Rat, p ≤ ((400 * cc * cc : Nat) : Rat) → p / (b.1 - a.1) ≤ ((400 * cc * cc * LL : Nat) : Rat) := fun p hp => by
    refine Rat.le_of_mul_le_mul_right (c := b.1 - a.1) ?_ pd
    rw [Rat.div_mul_cancel nz, Rat.natCast_mul _ LL, Rat.mul_assoc, Rat.mul_comm (LL : Rat)]
    have c0 : (0 : Rat) ≤ ((400 * cc * cc : Nat) : Rat) := Rat.natCast_nonneg
    have := Rat.mul_le_mul_of_nonneg_left one c0
    rw [Rat.mul_one] at this
    exact Rat.le_trans hp this
  have e4 : 200 * cc * cc + 200 * cc * cc = 400 * cc * cc := by decide +kernel
  rw [e4] at fp
  refine ⟨w, w0, by simpa [← Nat.two_mul, ← Nat.mul_assoc] using w1, ⟨w2, ?_, bound _ fp.hi⟩⟩
  have := bound (-(b.2 - a.2)) (by have := fp.lo; grind)
  rw [Rat.div_def, Rat.neg_mul, ← Rat.div_def] at this
  grind

theorem due_mem {rows : Rows2} {x : Rat} (t : rows.Pairwise fun a b => a.1 < b.1) (hx : ∃ r ∈ rows, r.1 = x) (h2 : 2 ≤ rows.length) : dueM rows x = [(x, 1)] := by
  induction rows with
  | nil => simp at h2
  | cons a rows ih =>
    cases rows with
    | nil => simp at h2
    | cons b r =>
      unfold dueM
      by_cases h : x = a.1 ∨ x = b.1
      · rw [if_pos h]
      · rw [if_neg h]
        obtain ⟨r', hr, e⟩ := hx
        rcases List.mem_cons.mp hr with rfl | hr
        · exact absurd (.inl e.symm) h
        rcases List.mem_cons.mp hr with rfl | hr
        · exact absurd (.inr e.symm) h
        have hb := (List.pairwise_cons.mp (List.pairwise_cons.mp t).2).1 r' hr
        have n : ¬ (a.1 < x ∧ x < b.1) := fun z => by
          have := z.2
          rw [← e] at this
          grind
        rw [if_neg n]
        refine ih (List.pairwise_cons.mp t).2 ⟨r', List.mem_cons_of_mem _ hr, e⟩ ?_
        have := List.length_pos_of_mem hr
        simp only [List.length_cons]; omega
theorem due_ok {rows0 : Rows2} (t0 : TbOk rows0) {x : Rat} (fx : Ft (LL * LL) (36 * cc) x) : ∀ (rows : Rows2), (∀ r ∈ rows, r ∈ rows0) → rows.Pairwise (fun a b => a.1 < b.1) → ∃ w, MixOk rows0 (dueM rows x) w
  | [], _, _ => ⟨1, by simp [dueM], by decide, by decide +kernel, fun e he => by simp [dueM] at he⟩
  | [a], _, _ => ⟨1, by simp [dueM], by decide, by decide +kernel, fun e he => by simp [dueM] at he⟩
  | a :: b :: r, sub, t => by
    have ma := sub a List.mem_cons_self
    have mb := sub b (List.mem_cons_of_mem _ List.mem_cons_self)
    have ab := (List.pairwise_cons.mp t).1 b List.mem_cons_self
    unfold dueM
    split
    · rename_i h
      refine ⟨1, by simp, by decide, by decide +kernel, fun e he => ?_⟩
      rw [List.mem_singleton.mp he]
      refine ⟨?_, show Ft 1 1 (1 : Rat) from ⟨⟨1, rfl⟩, by decide +kernel, by decide +kernel⟩⟩
      rcases h with rfl | rfl
      · exact ⟨a.2, ma⟩
      · exact ⟨b.2, mb⟩
    · split
      · rename_i h
        obtain ⟨w, w0, w1, w2, w3⟩ := part_of (t0.s a ma) (t0.s b mb) fx ab (Rat.le_of_lt h.1) (Rat.le_of_lt h.2)
        refine ⟨w, by simp, w0, w1, fun e he => ?_⟩
        rcases List.mem_cons.mp he with rfl | he
        · exact ⟨⟨a.2, ma⟩, w3⟩
        · rw [List.mem_singleton.mp he]
          exact ⟨⟨b.2, mb⟩, w2⟩
      · exact due_ok t0 fx (b :: r) (fun y hy => sub y (List.mem_cons_of_mem _ hy)) (List.pairwise_cons.mp t).2
theorem due_pow {f : Rat → Rat} {x : Rat} : ∀ (rows : Rows2), (∀ r ∈ rows, f r.1 = r.2) → rows.Pairwise (fun a b => a.1 < b.1) → 2 ≤ rows.length → (∃ a r, rows = a :: r ∧ a.1 ≤ x) → (∃ r ∈ rows, x ≤ r.1) → sumR ((dueM rows x).map fun e => f e.1 * e.2) = powR rows x
  | [], _, _, h, _, _ => by simp at h
  | [a], _, _, h, _, _ => by simp at h
  | a :: b :: r, hf, t, _, hlo, hhi => by
    have fa := hf a List.mem_cons_self
    have fb := hf b (List.mem_cons_of_mem _ List.mem_cons_self)
    have ab := (List.pairwise_cons.mp t).1 b List.mem_cons_self
    have ax : a.1 ≤ x := by
      obtain ⟨a', r', e, h⟩ := hlo
      cases e; exact h
    have pd : 0 < b.1 - a.1 := by grind
    have nz : b.1 - a.1 ≠ 0 := fun z => by rw [z] at pd; exact absurd pd Rat.lt_irrefl
    unfold dueM powR
    by_cases h : x = a.1 ∨ x = b.1
    · rw [if_pos h]
      have nb : ¬ b.1 < x := by rcases h with h | h <;> rw [h] <;> grind
      rw [if_neg nb]
      show (0 : Rat) + f x * 1 = _
      rcases h with h | h
      · rw [h, fa, Rat.sub_self, Rat.mul_zero]; grind
      · rw [h, fb, Rat.div_mul_cancel nz]; grind
    · rw [if_neg h]
      by_cases h2 : a.1 < x ∧ x < b.1
      · rw [if_pos h2, if_neg (by grind)]
        show (0 : Rat) + f a.1 * (1 - (x - a.1) / (b.1 - a.1)) + f b.1 * ((x - a.1) / (b.1 - a.1)) = _
        rw [fa, fb]
        simp only [Rat.div_def]
        grind
      · rw [if_neg h2]
        have hb : b.1 < x := by
          have h3 : x ≠ a.1 := fun z => h (.inl z)
          have h4 : x ≠ b.1 := fun z => h (.inr z)
          have h5 : a.1 < x := by grind
          grind
        rw [if_pos hb]
        refine due_pow (b :: r) (fun y hy => hf y (List.mem_cons_of_mem _ hy)) (List.pairwise_cons.mp t).2 ?_ ⟨b, r, rfl, Rat.le_of_lt hb⟩ ?_
        · obtain ⟨y, hy, hxy⟩ := hhi
          rcases List.mem_cons.mp hy with rfl | hy
          · grind
          rcases List.mem_cons.mp hy with rfl | hy
          · grind
          have := List.length_pos_of_mem hy
          simp only [List.length_cons]; omega
        · obtain ⟨y, hy, hxy⟩ := hhi
          rcases List.mem_cons.mp hy with rfl | hy
          · grind
          · exact ⟨y, hy, hxy⟩
theorem head_lo {rows : Rows2} {x : Rat} (t : rows.Pairwise fun a b => a.1 < b.1) (h : ∃ r ∈ rows, r.1 ≤ x) : ∃ a r, rows = a :: r ∧ a.1 ≤ x := by
  obtain ⟨y, hy, hx⟩ := h
  cases rows with
  | nil => cases hy
  | cons a r =>
    refine ⟨a, r, rfl, ?_⟩
    rcases List.mem_cons.mp hy with rfl | hy
    · exact hx
    · have := (List.pairwise_cons.mp t).1 y hy
      grind
theorem mix_due {rows : Rows2} {x : Rat} (t : TbOk rows) (h : InB rows x) : mixP rows (dueM rows x) = powR rows x :=
  due_pow rows (fun r hr => pw_of t.ne hr) t.inc t.l1 (head_lo t.inc h.lo) h.hi
end Pz


set_option Elab.async false
set_option linter.all false
set_option autoImplicit false
set_option maxRecDepth 100000
set_option maxHeartbeats 4000000
/-! Mixtures: the walk. -/
namespace Pz
open PySem PySem.Spec L2
open PyProof.Rows hiding St

theorem tupP {p : Addr} {M : MH} {xs : List D} (h : M p = some (.lst xs)) (Q : Pt) (k : Q (.ptup xs) M) : bTup [.ref p] M Q := by
  refine .inr ?_
  show (match (match M p with | some (.lst ds) => some ds | _ => none) with | some es => Q (.ptup es) M | none => False)
  rw [h]; exact k
theorem tupT {p : Addr} {M : MH} {xs : List D} (h : M p = some (.lst xs)) (Q : Pt) (k : Q (.tup xs) M) : bTup [.ref p] M Q := by
  refine .inl ?_
  show (match (match M p with | some (.lst ds) => some ds | _ => none) with | some es => Q (.tup es) M | none => False)
  rw [h]; exact k
theorem pick5 {P : Int → Prop} {t0 t1 t2 t3 t4 : Int} (h0 : P t0) (h1 : P t1) (h2 : P t2) (h3 : P t3) (h4 : P t4) : ∀ j < 5, ∃ t, [D.int t0, .int t1, .int t2, .int t3, .int t4][j]? = some (.int t) ∧ P t
  | 0, _ => ⟨_, rfl, h0⟩
  | 1, _ => ⟨_, rfl, h1⟩
  | 2, _ => ⟨_, rfl, h2⟩
  | 3, _ => ⟨_, rfl, h3⟩
  | 4, _ => ⟨_, rfl, h4⟩
theorem log_small {n : Nat} (h : n ≤ 1000000) : n.log2 < 9000 := by
  by_cases h0 : n = 0
  · subst h0; decide
  · rw [Nat.log2_lt h0]
    exact Nat.lt_of_le_of_lt h (by decide +kernel)
theorem rng2 : rngD 0 (Int.toNat 2) = [.int 0, .int 1] := rfl
theorem lenTq {xs : List D} (M : MH) (Q : Pt) : bLen [.ptup xs] M Q = Q (.int xs.length) M := rfl
theorem rD0 : D.tup [.int 0, .int 1] = rD 0 := rfl
theorem rD1 : D.tup [.int 1, .int 1] = rD 1 := rfl
section
variable {sp : Nat → Spec} {M : MH} {Q : Pt} {R : XPt} {ds : List D}
/-- _law_table: _law_tape_here, _law_rows, _law_slope, _law_k, _law_step, _law_speed, _law_power_here -/
def c_law_table (i_law_part i_law_draw i_law_plus i_law_times : Nat) : List Sx := [.set 1 (.lst [.tup [.tup [.lit (.int 0), .lit (.int 1)], .ix (.lst [.tup [.lit (.int 0), .lit (.int 1)], .call i_law_part [.var 0]]) (.call i_law_draw [.var 0, .lit (.int 2)])]]), .set 2 (.call i_law_part [.var 0]), .for_ (.nm 3) .r1 (.ix (.lst [.lit (.int 1), .lit (.int 2), .lit (.int 3), .lit (.int 5), .lit (.int 11)]) (.call i_law_draw [.var 0, .lit (.int 5)])) (.ix (.lst [.lit (.int 1), .lit (.int 2), .lit (.int 3), .lit (.int 5), .lit (.int 11)]) (.call i_law_draw [.var 0, .lit (.int 5)])) [.set 4 (.call i_law_part [.var 0]), .setT false [5, 6] (.ix (.var 1) (.neg (.lit (.int 1)))), .ex (.mth .append (.var 1) [.tup [.call i_law_plus [.var 5, .var 4], .call i_law_plus [.var 6, .call i_law_times [.var 2, .var 4]]]]), .ife (.cmp .gt (.call i_law_draw [.var 0, .lit (.int 4)]) (.lit (.int 0))) [.set 2 (.call i_law_plus [.var 2, .call i_law_part [.var 0]])] []], .ret (.tup [.lit (.str "table"), .blt .tup [.var 1]])]
theorem vc_table {iP iD iA iT : Nat} {s1 s2 s3 s4 s5 s6 s7 : Str} (hP : sp iP = spPart) (hD : sp iD = spDraw) (hA : sp iA = spPlus) (hT : sp iT = spTimes) : Vc sp (c_law_table iP iD iA iT) [s1, s2, s3, s4, s5, s6, s7] spTable := by
  rintro ds M Q R ⟨t, n, rfl, ht, k⟩
  unfold c_law_table startD
  refine vs_cons ?_
  simp only [wpS, wpE, wpEs, wDrop, wRet, wRetN, wSet, wSetT, wPar, wStI, wVar, wLit, wBin, wUn, wCons, wNil, wTup, wLst, wIsN, wCh2, wSl, wpoS, wpoN, wCallF, wCall, wMth, Bo.op, Co.op, Bf.op, Mn.op, oAdd, oSub, oMul, oFdiv, oMod, oPow, oLt, oLe, oGt, oGe, oCmp, isB, isI, uNeg, D.nrm, bAbs, ixD_num, ixD_den, nrm_rD, wNext, wBrk, wCnt, wRetN, setAll, wFor, wpIk, wiV, wiR1, wiR2, Tn.tgt, Tn.is, wAnd, wOr, wNot, wIf, wIfS, List.getElem?_cons_zero, List.getElem?_cons_succ, List.set_cons_zero, List.set_cons_succ, List.map_cons, List.map_nil, List.length_cons, List.length_nil, List.cons_append, List.nil_append, List.append_nil, List.replicate, reduceIte, Bool.false_eq_true, Nat.zero_add, Nat.reduceAdd, Nat.reduceSub, Int.cast_ofNat_Int, Option.isSome_some, Option.isSome_none, reduceCtorEq, hP, hD, rD0]
  refine ⟨by decide, by decide, t, n + 135, rfl, ht, fun c M1 hc e1 => ⟨by decide, fun p1 hp1 => ?_⟩⟩
  have x1 := e1.new (o := .lst [rD 0, rD c]) hp1
  refine ⟨t, 2, n + 134, rfl, x1.t, by decide, by decide, fun j M2 hj e2 => ?_⟩
  have g1 := e2.get (e1.t.ne hp1) updM_same
  obtain ⟨c0, ec, fc⟩ : ∃ c0, [rD 0, rD c][j]? = some (rD c0) ∧ Ft (LL * LL) cc c0 := by
    match j, hj with
    | 0, _ => exact ⟨0, rfl, Ft.zero _ _⟩
    | 1, _ => exact ⟨c, rfl, hc.ft.mono ⟨LL, rfl⟩ (Nat.le_refl _)⟩
  simp only [wpS, wpE, wpEs, wDrop, wRet, wRetN, wSet, wSetT, wPar, wStI, wVar, wLit, wBin, wUn, wCons, wNil, wTup, wLst, wIsN, wCh2, wSl, wpoS, wpoN, wCallF, wCall, wMth, Bo.op, Co.op, Bf.op, Mn.op, oAdd, oSub, oMul, oFdiv, oMod, oPow, oLt, oLe, oGt, oGe, oCmp, isB, isI, uNeg, D.nrm, bAbs, ixD_num, ixD_den, nrm_rD, wNext, wBrk, wCnt, wRetN, setAll, wFor, wpIk, wiV, wiR1, wiR2, Tn.tgt, Tn.is, wAnd, wOr, wNot, wIf, wIfS, List.getElem?_cons_zero, List.getElem?_cons_succ, List.set_cons_zero, List.set_cons_succ, List.map_cons, List.map_nil, List.length_cons, List.length_nil, List.cons_append, List.nil_append, List.append_nil, List.replicate, reduceIte, Bool.false_eq_true, Nat.zero_add, Nat.reduceAdd, Nat.reduceSub, Int.cast_ofNat_Int, Option.isSome_some, Option.isSome_none, reduceCtorEq, ixL g1, atN ec]
  refine ⟨by decide, by decide, fun p hp => ?_⟩
  have x2 := (x1.trans e2).new (o := .lst [rowD (0, c0)]) hp
  have p0 := (x1.trans e2).free hp
  have pa := e2.t.ne hp
  have pb := e2.t.nb hp
  refine vs_cons ?_
  simp only [wpS, wpE, wpEs, wDrop, wRet, wRetN, wSet, wSetT, wPar, wStI, wVar, wLit, wBin, wUn, wCons, wNil, wTup, wLst, wIsN, wCh2, wSl, wpoS, wpoN, wCallF, wCall, wMth, Bo.op, Co.op, Bf.op, Mn.op, oAdd, oSub, oMul, oFdiv, oMod, oPow, oLt, oLe, oGt, oGe, oCmp, isB, isI, uNeg, D.nrm, bAbs, ixD_num, ixD_den, nrm_rD, wNext, wBrk, wCnt, wRetN, setAll, wFor, wpIk, wiV, wiR1, wiR2, Tn.tgt, Tn.is, wAnd, wOr, wNot, wIf, wIfS, List.getElem?_cons_zero, List.getElem?_cons_succ, List.set_cons_zero, List.set_cons_succ, List.map_cons, List.map_nil, List.length_cons, List.length_nil, List.cons_append, List.nil_append, List.append_nil, List.replicate, reduceIte, Bool.false_eq_true, Nat.zero_add, Nat.reduceAdd, Nat.reduceSub, Int.cast_ofNat_Int, Option.isSome_some, Option.isSome_none, reduceCtorEq, hP]
  refine ⟨t, n + 129, rfl, x2.t, fun sl M3 hs e3 => ?_⟩
  have g3 := e3.get pa updM_same
  refine vs_cons ?_
  simp only [wpS, wpE, wpEs, wDrop, wRet, wRetN, wSet, wSetT, wPar, wStI, wVar, wLit, wBin, wUn, wCons, wNil, wTup, wLst, wIsN, wCh2, wSl, wpoS, wpoN, wCallF, wCall, wMth, Bo.op, Co.op, Bf.op, Mn.op, oAdd, oSub, oMul, oFdiv, oMod, oPow, oLt, oLe, oGt, oGe, oCmp, isB, isI, uNeg, D.nrm, bAbs, ixD_num, ixD_den, nrm_rD, wNext, wBrk, wCnt, wRetN, setAll, wFor, wpIk, wiV, wiR1, wiR2, Tn.tgt, Tn.is, wAnd, wOr, wNot, wIf, wIfS, List.getElem?_cons_zero, List.getElem?_cons_succ, List.set_cons_zero, List.set_cons_succ, List.map_cons, List.map_nil, List.length_cons, List.length_nil, List.cons_append, List.nil_append, List.append_nil, List.replicate, reduceIte, Bool.false_eq_true, Nat.zero_add, Nat.reduceAdd, Nat.reduceSub, Int.cast_ofNat_Int, Option.isSome_some, Option.isSome_none, reduceCtorEq, hD]
  refine ⟨by decide, fun p3 hp3 => ?_⟩
  have x3 := (x2.trans e3).new (o := .lst [.int 1, .int 2, .int 3, .int 5, .int 11]) hp3
  have g4 : (updM M3 p3 (.lst [.int 1, .int 2, .int 3, .int 5, .int 11])) p = some (.lst [rowD (0, c0)]) := by
    rw [updM_ne]; exact g3
    rintro rfl; rw [g3] at hp3; cases hp3
  refine ⟨t, 5, n + 128, rfl, x3.t, by decide, by decide, fun j5 M5 hj5 e5 => ?_⟩
  have g5 := e5.get (e3.t.ne hp3) updM_same
  obtain ⟨v, ev, pv⟩ := pick5 (P := fun v => 1 ≤ v ∧ v ≤ 11) (t0 := 1) (t1 := 2) (t2 := 3) (t3 := 5) (t4 := 11) (by decide) (by decide) (by decide) (by decide) (by decide) j5 hj5
  simp only [wpS, wpE, wpEs, wDrop, wRet, wRetN, wSet, wSetT, wPar, wStI, wVar, wLit, wBin, wUn, wCons, wNil, wTup, wLst, wIsN, wCh2, wSl, wpoS, wpoN, wCallF, wCall, wMth, Bo.op, Co.op, Bf.op, Mn.op, oAdd, oSub, oMul, oFdiv, oMod, oPow, oLt, oLe, oGt, oGe, oCmp, isB, isI, uNeg, D.nrm, bAbs, ixD_num, ixD_den, nrm_rD, wNext, wBrk, wCnt, wRetN, setAll, wFor, wpIk, wiV, wiR1, wiR2, Tn.tgt, Tn.is, wAnd, wOr, wNot, wIf, wIfS, List.getElem?_cons_zero, List.getElem?_cons_succ, List.set_cons_zero, List.set_cons_succ, List.map_cons, List.map_nil, List.length_cons, List.length_nil, List.cons_append, List.nil_append, List.append_nil, List.replicate, reduceIte, Bool.false_eq_true, Nat.zero_add, Nat.reduceAdd, Nat.reduceSub, Int.cast_ofNat_Int, Option.isSome_some, Option.isSome_none, reduceCtorEq, ixL g5, atN ev]
  refine ⟨rgOk_small (by omega) (by omega), ?_⟩
  have el : (rngD 0 v.toNat).length = v.toNat := by unfold rngD; rw [List.length_map, List.length_range]
  refine table_loop (n := n) hP hD hA hT p0 pa pb (rngD 0 v.toNat) 0 [] (0, c0) sl M5 _ _ _ _ ⟨List.pairwise_singleton _ _, rfl, by omega, fun r hr => ?_, fun r hr => ?_, ?_⟩ (by rw [el]; omega) (e5.get pa g4) ((x3.trans e5).le (by rw [el]; omega)) fun rows' slope' M' _ _ _ _ mk hp' ex' => ?_
  · rw [List.nil_append] at hr; rw [List.mem_singleton.mp hr]; exact Ft.zero _ _
  · rw [List.nil_append] at hr; rw [List.mem_singleton.mp hr]; exact fc.mono ⟨1, by omega⟩ (by omega)
  · exact hs.ft.mono ⟨1, by omega⟩ (by unfold cc; omega)
  refine vs_cons ?_
  simp only [wpS, wpE, wpEs, wDrop, wRet, wRetN, wSet, wSetT, wPar, wStI, wVar, wLit, wBin, wUn, wCons, wNil, wTup, wLst, wIsN, wCh2, wSl, wpoS, wpoN, wCallF, wCall, wMth, Bo.op, Co.op, Bf.op, Mn.op, oAdd, oSub, oMul, oFdiv, oMod, oPow, oLt, oLe, oGt, oGe, oCmp, isB, isI, uNeg, D.nrm, bAbs, ixD_num, ixD_den, nrm_rD, wNext, wBrk, wCnt, wRetN, setAll, wFor, wpIk, wiV, wiR1, wiR2, Tn.tgt, Tn.is, wAnd, wOr, wNot, wIf, wIfS, List.getElem?_cons_zero, List.getElem?_cons_succ, List.set_cons_zero, List.set_cons_succ, List.map_cons, List.map_nil, List.length_cons, List.length_nil, List.cons_append, List.nil_append, List.append_nil, List.replicate, reduceIte, Bool.false_eq_true, Nat.zero_add, Nat.reduceAdd, Nat.reduceSub, Int.cast_ofNat_Int, Option.isSome_some, Option.isSome_none, reduceCtorEq]
  refine tupP hp' _ ⟨by decide, k rows' M' (mk.ok (by rw [el]; omega)) ex'⟩

/-! ### a speed inside -/
def spInside : Spec := fun ds M Q _ => ∃ (t : Tp) (n : Nat) (rows : Rows2), ds = [.ref t.a, tblD rows] ∧ TbOk rows ∧ Tape M t (n + 3) ∧ ∀ x M', InB rows x → Ext t n M M' → Q (rD x) M'
/-- _law_inside: _law_tape_here, _law_table_here, _law_rows, _law_low, _law_high, _law_part_here, _law_k -/
def c_law_inside (i_law_draw i_law_ratio i_law_plus i_law_times i_law_minus : Nat) : List Sx := [.set 2 (.ix (.var 1) (.lit (.int 1))), .setT true [3, 4] (.lc [6] (.nm 6) .r1 (.lit (.int 2)) (.lit (.int 2)) (.lit (.bl true)) (.ix (.ix (.var 2) (.call i_law_draw [.var 0, .blt .len [.var 2]])) (.lit (.int 0)))), .set 5 (.call i_law_ratio [.call i_law_draw [.var 0, .lit (.int 13)], .lit (.int 12)]), .ret (.call i_law_plus [.var 3, .call i_law_times [.var 5, .call i_law_minus [.var 4, .var 3]]])]
theorem in_of {rows : Rows2} (t : TbOk rows) {lo hi : Rat × Rat} (hl : lo ∈ rows) (hh : hi ∈ rows) {j : Nat} (hj : j < 13) : Ft LL 1 (Rat.divInt j 12) ∧ InB rows (lo.1 + Rat.divInt j 12 * (hi.1 - lo.1)) := by
  have e : Rat.divInt j 12 = (j : Rat) / ((12 : Nat) : Rat) := by
    rw [Rat.divInt_eq_div, Rat.intCast_natCast]; rfl
  have p12 : (0 : Rat) < ((12 : Nat) : Rat) := by decide +kernel
  have t0 : 0 ≤ Rat.divInt j 12 := Rat.divInt_nonneg (by omega) (by decide)
  have c1 : ((1 : Nat) : Rat) = 1 := rfl
  have t1 : Rat.divInt j 12 ≤ 1 := by
    rw [e]
    refine Rat.le_of_mul_le_mul_right (c := ((12 : Nat) : Rat)) ?_ p12
    rw [Rat.div_mul_cancel (by decide +kernel), Rat.one_mul]
    exact Rat.natCast_le_natCast.mpr (by omega)
  have dd : (Rat.divInt j 12).den ∣ LL := by
    refine Nat.dvd_trans ?_ (show 12 ∣ LL by decide +kernel)
    rw [Rat.den_divInt, if_neg (by decide)]
    exact Nat.div_dvd_of_dvd (Int.gcd_dvd_natAbs_left 12 (j : Int))
  have ft : Ft LL 1 (Rat.divInt j 12) := ⟨dd, by rw [c1]; grind, by rw [c1]; exact t1⟩
  refine ⟨ft, ?_⟩
  have fl := t.s lo hl
  have fh := t.s hi hh
  have dv : LL ∣ LL * LL := ⟨LL, rfl⟩
  have fx := (fl.mono dv (Nat.le_refl _)).add LL2_pos (ft.mul LL_pos LL_pos (fh.sub LL_pos fl))
  have fx2 : Ft (LL * LL) (36 * cc) (lo.1 + Rat.divInt j 12 * (hi.1 - lo.1)) := fx.mono ⟨1, by omega⟩ (by omega)
  rcases Rat.le_total (a := lo.1) (b := hi.1) with h | h
  · have a1 := Rat.mul_nonneg t0 (show 0 ≤ hi.1 - lo.1 by grind)
    have a2 := Rat.mul_le_mul_of_nonneg_right t1 (show 0 ≤ hi.1 - lo.1 by grind)
    exact ⟨⟨lo, hl, by grind⟩, ⟨hi, hh, by grind⟩, fx2⟩
  · have a1 := Rat.mul_nonneg t0 (show 0 ≤ lo.1 - hi.1 by grind)
    have a2 := Rat.mul_le_mul_of_nonneg_right t1 (show 0 ≤ lo.1 - hi.1 by grind)
    exact ⟨⟨hi, hh, by grind⟩, ⟨lo, hl, by grind⟩, fx2⟩
theorem row_at {rows : Rows2} {j : Nat} (h : j < rows.length) : ∃ r, r ∈ rows ∧ (rows.map rowD)[j]? = some (rowD r) :=
  ⟨rows[j], List.getElem_mem h, by rw [List.getElem?_map, List.getElem?_eq_getElem h]; rfl⟩
theorem vc_inside {iD iR iA iT iM : Nat} {s1 s2 s3 s4 s5 s6 s7 : Str} (hD : sp iD = spDraw) (hR : sp iR = spRatio) (hA : sp iA = spPlus) (hT : sp iT = spTimes) (hM : sp iM = spMinus) : Vc sp (c_law_inside iD iR iA iT iM) [s1, s2, s3, s4, s5, s6, s7] spInside := by
  rintro ds M Q R ⟨t, n, rows, rfl, tb, ht, k⟩
  unfold c_law_inside startD
  have l1 := tb.l1
  have l2 := tb.l2
  refine vs_cons ?_
  simp only [wpS, wpE, wpEs, wDrop, wRet, wRetN, wSet, wSetT, wPar, wStI, wVar, wLit, wBin, wUn, wCons, wNil, wTup, wLst, wIsN, wCh2, wSl, wpoS, wpoN, wCallF, wCall, wMth, Bo.op, Co.op, Bf.op, Mn.op, oAdd, oSub, oMul, oFdiv, oMod, oPow, oLt, oLe, oGt, oGe, oCmp, isB, isI, uNeg, D.nrm, bAbs, ixD_num, ixD_den, nrm_rD, wNext, wBrk, wCnt, wRetN, setAll, wFor, wpIk, wiV, wiR1, wiR2, Tn.tgt, Tn.is, wAnd, wOr, wNot, wIf, wIfS, List.getElem?_cons_zero, List.getElem?_cons_succ, List.set_cons_zero, List.set_cons_succ, List.map_cons, List.map_nil, List.length_cons, List.length_nil, List.cons_append, List.nil_append, List.append_nil, List.replicate, reduceIte, Bool.false_eq_true, Nat.zero_add, Nat.reduceAdd, Nat.reduceSub, Int.cast_ofNat_Int, Option.isSome_some, Option.isSome_none, reduceCtorEq, tbl1]
  refine vs_cons ?_
  simp only [wpS, wpE, wpEs, wDrop, wRet, wRetN, wSet, wSetT, wPar, wStI, wVar, wLit, wBin, wUn, wCons, wNil, wTup, wLst, wIsN, wCh2, wSl, wpoS, wpoN, wCallF, wCall, wMth, Bo.op, Co.op, Bf.op, Mn.op, oAdd, oSub, oMul, oFdiv, oMod, oPow, oLt, oLe, oGt, oGe, oCmp, isB, isI, uNeg, D.nrm, bAbs, ixD_num, ixD_den, nrm_rD, wNext, wBrk, wCnt, wRetN, setAll, wFor, wpIk, wiV, wiR1, wiR2, Tn.tgt, Tn.is, wAnd, wOr, wNot, wIf, wIfS, List.getElem?_cons_zero, List.getElem?_cons_succ, List.set_cons_zero, List.set_cons_succ, List.map_cons, List.map_nil, List.length_cons, List.length_nil, List.cons_append, List.nil_append, List.append_nil, List.replicate, reduceIte, Bool.false_eq_true, Nat.zero_add, Nat.reduceAdd, Nat.reduceSub, Int.cast_ofNat_Int, Option.isSome_some, Option.isSome_none, reduceCtorEq, wLc, wipeD, rng2, goLc, tgN, hD, lenTq, List.length_map]
  refine ⟨rgOk_small (by decide) (by decide), by decide, trivial, t, rows.length, n + 2, rfl, ht, by omega, log_small (by omega), fun j1 M1 h1 e1 => ?_⟩
  obtain ⟨lo, hl, el⟩ := row_at h1
  simp only [wpS, wpE, wpEs, wDrop, wRet, wRetN, wSet, wSetT, wPar, wStI, wVar, wLit, wBin, wUn, wCons, wNil, wTup, wLst, wIsN, wCh2, wSl, wpoS, wpoN, wCallF, wCall, wMth, Bo.op, Co.op, Bf.op, Mn.op, oAdd, oSub, oMul, oFdiv, oMod, oPow, oLt, oLe, oGt, oGe, oCmp, isB, isI, uNeg, D.nrm, bAbs, ixD_num, ixD_den, nrm_rD, wNext, wBrk, wCnt, wRetN, setAll, wFor, wpIk, wiV, wiR1, wiR2, Tn.tgt, Tn.is, wAnd, wOr, wNot, wIf, wIfS, List.getElem?_cons_zero, List.getElem?_cons_succ, List.set_cons_zero, List.set_cons_succ, List.map_cons, List.map_nil, List.length_cons, List.length_nil, List.cons_append, List.nil_append, List.append_nil, List.replicate, reduceIte, Bool.false_eq_true, Nat.zero_add, Nat.reduceAdd, Nat.reduceSub, Int.cast_ofNat_Int, Option.isSome_some, Option.isSome_none, reduceCtorEq, ixTq, atN el, row0]
  refine ⟨trivial, t, rows.length, n + 1, rfl, e1.t, by omega, log_small (by omega), fun j2 M2 h2 e2 => ?_⟩
  obtain ⟨hi, hh, eh⟩ := row_at h2
  simp only [wpS, wpE, wpEs, wDrop, wRet, wRetN, wSet, wSetT, wPar, wStI, wVar, wLit, wBin, wUn, wCons, wNil, wTup, wLst, wIsN, wCh2, wSl, wpoS, wpoN, wCallF, wCall, wMth, Bo.op, Co.op, Bf.op, Mn.op, oAdd, oSub, oMul, oFdiv, oMod, oPow, oLt, oLe, oGt, oGe, oCmp, isB, isI, uNeg, D.nrm, bAbs, ixD_num, ixD_den, nrm_rD, wNext, wBrk, wCnt, wRetN, setAll, wFor, wpIk, wiV, wiR1, wiR2, Tn.tgt, Tn.is, wAnd, wOr, wNot, wIf, wIfS, List.getElem?_cons_zero, List.getElem?_cons_succ, List.set_cons_zero, List.set_cons_succ, List.map_cons, List.map_nil, List.length_cons, List.length_nil, List.cons_append, List.nil_append, List.append_nil, List.replicate, reduceIte, Bool.false_eq_true, Nat.zero_add, Nat.reduceAdd, Nat.reduceSub, Int.cast_ofNat_Int, Option.isSome_some, Option.isSome_none, reduceCtorEq, ixTq, atN eh, row0]
  refine ⟨trivial, fun p hp => ?_⟩
  have x2 := (e1.trans e2).new (o := .lst [rD lo.1, rD hi.1]) hp
  simp only [wpS, wpE, wpEs, wDrop, wRet, wRetN, wSet, wSetT, wPar, wStI, wVar, wLit, wBin, wUn, wCons, wNil, wTup, wLst, wIsN, wCh2, wSl, wpoS, wpoN, wCallF, wCall, wMth, Bo.op, Co.op, Bf.op, Mn.op, oAdd, oSub, oMul, oFdiv, oMod, oPow, oLt, oLe, oGt, oGe, oCmp, isB, isI, uNeg, D.nrm, bAbs, ixD_num, ixD_den, nrm_rD, wNext, wBrk, wCnt, wRetN, setAll, wFor, wpIk, wiV, wiR1, wiR2, Tn.tgt, Tn.is, wAnd, wOr, wNot, wIf, wIfS, List.getElem?_cons_zero, List.getElem?_cons_succ, List.set_cons_zero, List.set_cons_succ, List.map_cons, List.map_nil, List.length_cons, List.length_nil, List.cons_append, List.nil_append, List.append_nil, List.replicate, reduceIte, Bool.false_eq_true, Nat.zero_add, Nat.reduceAdd, Nat.reduceSub, Int.cast_ofNat_Int, Option.isSome_some, Option.isSome_none, reduceCtorEq, updM_same]
  refine vs_cons ?_
  simp only [wpS, wpE, wpEs, wDrop, wRet, wRetN, wSet, wSetT, wPar, wStI, wVar, wLit, wBin, wUn, wCons, wNil, wTup, wLst, wIsN, wCh2, wSl, wpoS, wpoN, wCallF, wCall, wMth, Bo.op, Co.op, Bf.op, Mn.op, oAdd, oSub, oMul, oFdiv, oMod, oPow, oLt, oLe, oGt, oGe, oCmp, isB, isI, uNeg, D.nrm, bAbs, ixD_num, ixD_den, nrm_rD, wNext, wBrk, wCnt, wRetN, setAll, wFor, wpIk, wiV, wiR1, wiR2, Tn.tgt, Tn.is, wAnd, wOr, wNot, wIf, wIfS, List.getElem?_cons_zero, List.getElem?_cons_succ, List.set_cons_zero, List.set_cons_succ, List.map_cons, List.map_nil, List.length_cons, List.length_nil, List.cons_append, List.nil_append, List.append_nil, List.replicate, reduceIte, Bool.false_eq_true, Nat.zero_add, Nat.reduceAdd, Nat.reduceSub, Int.cast_ofNat_Int, Option.isSome_some, Option.isSome_none, reduceCtorEq, hD, hR]
  refine ⟨t, 13, n, rfl, x2.t, by decide, by decide, fun j M3 hj e3 => ?_⟩
  obtain ⟨ft, ib⟩ := in_of tb hl hh hj
  refine ⟨j, 12, rfl, by decide, by decide, ?_⟩
  refine vs_cons ?_
  simp only [wpS, wpE, wpEs, wDrop, wRet, wRetN, wSet, wSetT, wPar, wStI, wVar, wLit, wBin, wUn, wCons, wNil, wTup, wLst, wIsN, wCh2, wSl, wpoS, wpoN, wCallF, wCall, wMth, Bo.op, Co.op, Bf.op, Mn.op, oAdd, oSub, oMul, oFdiv, oMod, oPow, oLt, oLe, oGt, oGe, oCmp, isB, isI, uNeg, D.nrm, bAbs, ixD_num, ixD_den, nrm_rD, wNext, wBrk, wCnt, wRetN, setAll, wFor, wpIk, wiV, wiR1, wiR2, Tn.tgt, Tn.is, wAnd, wOr, wNot, wIf, wIfS, List.getElem?_cons_zero, List.getElem?_cons_succ, List.set_cons_zero, List.set_cons_succ, List.map_cons, List.map_nil, List.length_cons, List.length_nil, List.cons_append, List.nil_append, List.append_nil, List.replicate, reduceIte, Bool.false_eq_true, Nat.zero_add, Nat.reduceAdd, Nat.reduceSub, Int.cast_ofNat_Int, Option.isSome_some, Option.isSome_none, reduceCtorEq, hA, hT, hM]
  have ol := okS (tb.s lo hl)
  have oh := okS (tb.s hi hh)
  have fd := (tb.s hi hh).sub LL_pos (tb.s lo hl)
  refine ⟨_, _, rfl, oh, ol, _, _, rfl, ft.ok LL_pos (by decide +kernel) (by decide +kernel), fd.ok LL_pos (by decide +kernel) (by decide +kernel), _, _, rfl, ol, (ft.mul LL_pos LL_pos fd).ok LL2_pos (by decide +kernel) (by decide +kernel), ?_⟩
  exact k _ _ ib (x2.trans e3)
end
end Pz


set_option Elab.async false
set_option linter.all false
set_option autoImplicit false
set_option maxRecDepth 100000
set_option maxHeartbeats 4000000
/-! Mixtures: the walk, second part. -/
namespace Pz
open PySem PySem.Spec L2
open PyProof.Rows hiding St

section
variable {sp : Nat → Spec} {M : MH} {Q : Pt} {R : XPt} {ds : List D}
theorem itTp {xs : List D} {M : MH} (Q : List D → (MH → Prop) → MH → Prop) : itV (.tup xs) M Q = Q xs (fun _ => True) M := rfl
theorem itTq {xs : List D} {M : MH} (Q : List D → (MH → Prop) → MH → Prop) : itV (.ptup xs) M Q = Q xs (fun _ => True) M := rfl
/-- a list of what is reckoned from each -/
theorem goLc_map {α : Type} {g : Tgt} {chk : MH → Prop} {e : Wp} {ρ : Ev} {QQ : List D → MH → Prop} (hc : chk M) (g0 f : α → D) : ∀ (xs : List α) (acc : List D), (∀ x ∈ xs, ∃ ρ', g (g0 x) ρ = some ρ' ∧ ∀ K : Pt, K (f x) M → e ρ' M K) → QQ (acc ++ xs.map f) M →
    goLc g chk (wLit (.bl true)) e ρ QQ (xs.map g0) acc M
  | [], acc, _, h => ⟨hc, by rw [List.map_nil, List.append_nil] at h; exact h⟩
  | x :: xs, acc, he, h => by
    obtain ⟨ρ', e1, e2⟩ := he x List.mem_cons_self
    refine ⟨hc, ?_⟩
    simp only [e1]
    show (if true = true then (e ρ' M fun y M2 => goLc g chk (wLit (.bl true)) e ρ QQ (xs.map g0) (acc ++ [y]) M2) else (goLc g chk (wLit (.bl true)) e ρ QQ (xs.map g0) acc M))
    rw [if_pos rfl]
    refine e2 _ (goLc_map hc g0 f xs (acc ++ [f x]) (fun y hy => he y (List.mem_cons_of_mem _ hy)) ?_)
    rw [List.append_assoc]; exact h
def spSpeeds : Spec := fun ds M Q _ => ∃ rows : Rows2, ds = [tblD rows] ∧ rows.length ≤ sizeLine ∧ ∀ p, M p = none → Q (.ref p) (updM M p (.lst ((rows.map (·.1)).map rD)))
/-- row_speeds: table, row -/
def c_row_speeds : List Sx := [.ret (.lc [1] (.nm 1) .val (.ix (.var 0) (.lit (.int 1))) (.ix (.var 0) (.lit (.int 1))) (.lit (.bl true)) (.ix (.var 1) (.lit (.int 0))))]
theorem vc_row_speeds {s1 s2 : Str} : Vc sp c_row_speeds [s1, s2] spSpeeds := by
  rintro ds M Q R ⟨rows, rfl, hl, k⟩
  unfold c_row_speeds startD
  refine vs_cons ?_
  simp only [wpS, wpE, wpEs, wDrop, wRet, wRetN, wSet, wSetT, wPar, wStI, wVar, wLit, wBin, wUn, wCons, wNil, wTup, wLst, wIsN, wCh2, wSl, wpoS, wpoN, wCallF, wCall, wMth, Bo.op, Co.op, Bf.op, Mn.op, oAdd, oSub, oMul, oFdiv, oMod, oPow, oLt, oLe, oGt, oGe, oCmp, isB, isI, uNeg, D.nrm, bAbs, ixD_num, ixD_den, nrm_rD, wNext, wBrk, wCnt, wRetN, setAll, wFor, wpIk, wiV, wiR1, wiR2, Tn.tgt, Tn.is, wAnd, wOr, wNot, wIf, wIfS, List.getElem?_cons_zero, List.getElem?_cons_succ, List.set_cons_zero, List.set_cons_succ, List.map_cons, List.map_nil, List.length_cons, List.length_nil, List.cons_append, List.nil_append, List.append_nil, List.replicate, reduceIte, Bool.false_eq_true, Nat.zero_add, Nat.reduceAdd, Nat.reduceSub, Int.cast_ofNat_Int, Option.isSome_some, Option.isSome_none, reduceCtorEq, wLc, tbl1, itTq, wipeD]
  refine ⟨by rw [List.length_map]; exact hl, ?_⟩
  refine goLc_map trivial rowD (fun r => rD r.1) rows [] (fun r hr => ⟨[some (tblD rows), some (rowD r)], rfl, fun K kk => ?_⟩) fun p hp => ?_
  · simp only [wpS, wpE, wpEs, wDrop, wRet, wRetN, wSet, wSetT, wPar, wStI, wVar, wLit, wBin, wUn, wCons, wNil, wTup, wLst, wIsN, wCh2, wSl, wpoS, wpoN, wCallF, wCall, wMth, Bo.op, Co.op, Bf.op, Mn.op, oAdd, oSub, oMul, oFdiv, oMod, oPow, oLt, oLe, oGt, oGe, oCmp, isB, isI, uNeg, D.nrm, bAbs, ixD_num, ixD_den, nrm_rD, wNext, wBrk, wCnt, wRetN, setAll, wFor, wpIk, wiV, wiR1, wiR2, Tn.tgt, Tn.is, wAnd, wOr, wNot, wIf, wIfS, List.getElem?_cons_zero, List.getElem?_cons_succ, List.set_cons_zero, List.set_cons_succ, List.map_cons, List.map_nil, List.length_cons, List.length_nil, List.cons_append, List.nil_append, List.append_nil, List.replicate, reduceIte, Bool.false_eq_true, Nat.zero_add, Nat.reduceAdd, Nat.reduceSub, Int.cast_ofNat_Int, Option.isSome_some, Option.isSome_none, reduceCtorEq, row0]
    exact kk
  · have := k p hp
    rw [List.map_map] at this
    exact this

/-! ### mixtures -/
def spMixture : Spec := fun ds M Q _ => ∃ (rows : Rows2) (x : Rat), ds = [tblD rows, rD x] ∧ TbOk rows ∧ InB rows x ∧ ∀ M', Keep M M' → Q (mixD (dueM rows x)) M'
def spDue : Spec := fun ds M Q _ => ∃ (rows : Rows2) (x : Rat), ds = [tblD rows, rD x] ∧ TbOk rows ∧ InB rows x ∧ Q (mixD (dueM rows x)) M
theorem okX {x : Rat} (h : Ft (LL * LL) (36 * cc) x) : Ok x := h.ok LL2_pos (by decide +kernel) (by decide +kernel)
theorem ok1 : Ok 1 := ⟨by decide +kernel, by decide +kernel⟩
/-- all that is asked where a part is reckoned -/
structure PartOk (a b x : Rat) : Prop where
  xa : Ok (x - a)
  ba : Ok (b - a)
  pos : 0 < b - a
  t : Ok ((x - a) / (b - a))
theorem partOk {a b x : Rat} (ha : Ft LL (12 * cc) a) (hb : Ft LL (12 * cc) b) (hx : Ft (LL * LL) (36 * cc) x) (ab : a < b) (h1 : a ≤ x) (h2 : x ≤ b) : PartOk a b x := by
  obtain ⟨w, w0, w1, f1, f2⟩ := part_of ha hb hx ab h1 h2
  have dv : LL ∣ LL * LL := ⟨LL, rfl⟩
  exact ⟨(hx.sub LL2_pos (ha.mono dv (Nat.le_refl _))).ok LL2_pos (by decide +kernel) (by decide +kernel), (hb.sub LL_pos ha).ok LL_pos (by decide +kernel) (by decide +kernel), by grind, f1.ok w0 (le_pos w1) (by rw [Nat.one_mul]; exact le_pos w1)⟩
theorem zip_cons (a b : D) (xs ys : List D) : zipD (a :: xs) (b :: ys) = .tup [a, b] :: zipD xs ys := rfl
theorem zip_nil (xs : List D) : zipD xs [] = [] := by cases xs <;> rfl
theorem cut1 (xs : List D) : cutD xs (some 1) none = xs.drop 1 := by
  unfold cutD
  have e : HT.sIx xs.length 0 (some 1) = min 1 xs.length := HT.sIx_nat xs.length 0 1
  rw [e, HT.sIx_none]
  cases xs with
  | nil => rfl
  | cons x xs =>
    simp
theorem slL {p : Addr} {xs : List D} (h : M p = some (.lst xs)) (lo hi : Option Int) (Q : Pt) : oSl (.ref p) lo hi M Q = ∀ q, M q = none → Q (.ref q) (updM M q (.lst (cutD xs lo hi))) := by
  show (match M p with | some (.lst ds) => ∀ q, M q = none → Q (.ref q) (updM M q (.lst (cutD ds lo hi))) | _ => False) = _
  rw [h]
theorem slTq (xs : List D) (lo hi : Option Int) (Q : Pt) : oSl (.ptup xs) lo hi M Q = Q (.tup (cutD xs lo hi)) M := rfl
/-- mixture: table, speed, speeds, low, high, part -/
def c_mixture (i_row_speeds i_is_less i_over i_minus : Nat) : List Sx := [.set 2 (.call i_row_speeds [.var 0]), .ife (.cmp .in_ (.var 1) (.var 2)) [.ret (.tup [.tup [.var 1, .lit (.tup [.int 1, .int 1])]])] [], .for_ (.tp [3, 4]) .zip (.var 2) (.sl (.var 2) true false (.lit (.int 1)) .nev) [.ife (.call i_is_less [.var 1, .var 4]) [.set 5 (.call i_over [.call i_minus [.var 1, .var 3], .call i_minus [.var 4, .var 3]]), .ret (.tup [.tup [.var 3, .call i_minus [.lit (.tup [.int 1, .int 1]), .var 5]], .tup [.var 4, .var 5]])] []], .nev]
theorem mix_loop {i_is_less i_over i_minus : Nat} (hL : sp i_is_less = spLess) (hO : sp i_over = spOver) (hM : sp i_minus = spMinus) {x : Rat} {chk : MH → Prop} (hc : chk M) {E : ME} {d0 d2 : D} {rows0 : Rows2} (tb : TbOk rows0) (fx : Ft (LL * LL) (36 * cc) x) :
    ∀ (rest : Rows2) (a : Rat × Rat) (x3 x4 x5 : Option D), (∀ r ∈ a :: rest, r ∈ rows0) → (a :: rest).Pairwise (fun a b => a.1 < b.1) → (∀ r ∈ a :: rest, r.1 ≠ x) → a.1 < x → (∃ r ∈ a :: rest, x ≤ r.1) → E.rt (mixD (dueM (a :: rest) x)) M →
    goFor (tgT [3, 4]) chk (wpSs sp R [.ife (.call i_is_less [.var 1, .var 4]) [.set 5 (.call i_over [.call i_minus [.var 1, .var 3], .call i_minus [.var 4, .var 3]]), .ret (.tup [.tup [.var 3, .call i_minus [.lit (.tup [.int 1, .int 1]), .var 5]], .tup [.var 4, .var 5]])] []]) E (zipD (((a :: rest).map (·.1)).map rD) ((rest.map (·.1)).map rD)) [some d0, some (rD x), some d2, x3, x4, x5] M
  | [], a, x3, x4, x5, sub, t, ne, ax, hi, k => by
    obtain ⟨r, hr, h⟩ := hi
    rw [List.mem_singleton.mp hr] at h
    exfalso; grind
  | b :: rest, a, x3, x4, x5, sub, t, ne, ax, hi, k => by
    have ma := sub a List.mem_cons_self
    have mb := sub b (List.mem_cons_of_mem _ List.mem_cons_self)
    have ab := (List.pairwise_cons.mp t).1 b List.mem_cons_self
    have fa := tb.s a ma
    have fb := tb.s b mb
    have na := ne a List.mem_cons_self
    have nb := ne b (List.mem_cons_of_mem _ List.mem_cons_self)
    unfold dueM at k
    rw [if_neg (by rintro (h | h) <;> simp_all)] at k
    refine ⟨hc, ?_⟩
    simp only [tgT, D.nrm, setAll, List.set_cons_succ, List.set_cons_zero]
    refine vs_cons ?_
    simp only [wpS, wpE, wpEs, wDrop, wRet, wRetN, wSet, wSetT, wPar, wStI, wVar, wLit, wBin, wUn, wCons, wNil, wTup, wLst, wIsN, wCh2, wSl, wpoS, wpoN, wCallF, wCall, wMth, Bo.op, Co.op, Bf.op, Mn.op, oAdd, oSub, oMul, oFdiv, oMod, oPow, oLt, oLe, oGt, oGe, oCmp, isB, isI, uNeg, D.nrm, bAbs, ixD_num, ixD_den, nrm_rD, wNext, wBrk, wCnt, wRetN, setAll, wFor, wpIk, wiV, wiR1, wiR2, Tn.tgt, Tn.is, wAnd, wOr, wNot, wIf, wIfS, List.getElem?_cons_zero, List.getElem?_cons_succ, List.set_cons_zero, List.set_cons_succ, List.map_cons, List.map_nil, List.length_cons, List.length_nil, List.cons_append, List.nil_append, List.append_nil, List.replicate, reduceIte, Bool.false_eq_true, Nat.zero_add, Nat.reduceAdd, Nat.reduceSub, Int.cast_ofNat_Int, Option.isSome_some, Option.isSome_none, reduceCtorEq, hL]
    refine ⟨_, _, rfl, okX fx, okS fb, ?_⟩
    by_cases hb : x < b.1
    · rw [if_pos ⟨ax, hb⟩] at k
      have po := partOk fa fb fx ab (Rat.le_of_lt ax) (Rat.le_of_lt hb)
      simp only [wpS, wpE, wpEs, wDrop, wRet, wRetN, wSet, wSetT, wPar, wStI, wVar, wLit, wBin, wUn, wCons, wNil, wTup, wLst, wIsN, wCh2, wSl, wpoS, wpoN, wCallF, wCall, wMth, Bo.op, Co.op, Bf.op, Mn.op, oAdd, oSub, oMul, oFdiv, oMod, oPow, oLt, oLe, oGt, oGe, oCmp, isB, isI, uNeg, D.nrm, bAbs, ixD_num, ixD_den, nrm_rD, wNext, wBrk, wCnt, wRetN, setAll, wFor, wpIk, wiV, wiR1, wiR2, Tn.tgt, Tn.is, wAnd, wOr, wNot, wIf, wIfS, List.getElem?_cons_zero, List.getElem?_cons_succ, List.set_cons_zero, List.set_cons_succ, List.map_cons, List.map_nil, List.length_cons, List.length_nil, List.cons_append, List.nil_append, List.append_nil, List.replicate, reduceIte, Bool.false_eq_true, Nat.zero_add, Nat.reduceAdd, Nat.reduceSub, Int.cast_ofNat_Int, Option.isSome_some, Option.isSome_none, reduceCtorEq, decide_eq_true hb]
      refine vs_cons ?_
      simp only [wpS, wpE, wpEs, wDrop, wRet, wRetN, wSet, wSetT, wPar, wStI, wVar, wLit, wBin, wUn, wCons, wNil, wTup, wLst, wIsN, wCh2, wSl, wpoS, wpoN, wCallF, wCall, wMth, Bo.op, Co.op, Bf.op, Mn.op, oAdd, oSub, oMul, oFdiv, oMod, oPow, oLt, oLe, oGt, oGe, oCmp, isB, isI, uNeg, D.nrm, bAbs, ixD_num, ixD_den, nrm_rD, wNext, wBrk, wCnt, wRetN, setAll, wFor, wpIk, wiV, wiR1, wiR2, Tn.tgt, Tn.is, wAnd, wOr, wNot, wIf, wIfS, List.getElem?_cons_zero, List.getElem?_cons_succ, List.set_cons_zero, List.set_cons_succ, List.map_cons, List.map_nil, List.length_cons, List.length_nil, List.cons_append, List.nil_append, List.append_nil, List.replicate, reduceIte, Bool.false_eq_true, Nat.zero_add, Nat.reduceAdd, Nat.reduceSub, Int.cast_ofNat_Int, Option.isSome_some, Option.isSome_none, reduceCtorEq, hO, hM]
      refine ⟨_, _, rfl, okX fx, okS fa, _, _, rfl, okS fb, okS fa, _, _, rfl, po.xa, po.ba, po.pos, ?_⟩
      refine vs_cons ?_
      simp only [wpS, wpE, wpEs, wDrop, wRet, wRetN, wSet, wSetT, wPar, wStI, wVar, wLit, wBin, wUn, wCons, wNil, wTup, wLst, wIsN, wCh2, wSl, wpoS, wpoN, wCallF, wCall, wMth, Bo.op, Co.op, Bf.op, Mn.op, oAdd, oSub, oMul, oFdiv, oMod, oPow, oLt, oLe, oGt, oGe, oCmp, isB, isI, uNeg, D.nrm, bAbs, ixD_num, ixD_den, nrm_rD, wNext, wBrk, wCnt, wRetN, setAll, wFor, wpIk, wiV, wiR1, wiR2, Tn.tgt, Tn.is, wAnd, wOr, wNot, wIf, wIfS, List.getElem?_cons_zero, List.getElem?_cons_succ, List.set_cons_zero, List.set_cons_succ, List.map_cons, List.map_nil, List.length_cons, List.length_nil, List.cons_append, List.nil_append, List.append_nil, List.replicate, reduceIte, Bool.false_eq_true, Nat.zero_add, Nat.reduceAdd, Nat.reduceSub, Int.cast_ofNat_Int, Option.isSome_some, Option.isSome_none, reduceCtorEq, hM, rD1]
      exact ⟨_, _, rfl, ok1, po.t, by decide, by decide, by decide, k⟩
    · have hb' : b.1 < x := by grind
      rw [if_neg (by grind)] at k
      simp only [wpS, wpE, wpEs, wDrop, wRet, wRetN, wSet, wSetT, wPar, wStI, wVar, wLit, wBin, wUn, wCons, wNil, wTup, wLst, wIsN, wCh2, wSl, wpoS, wpoN, wCallF, wCall, wMth, Bo.op, Co.op, Bf.op, Mn.op, oAdd, oSub, oMul, oFdiv, oMod, oPow, oLt, oLe, oGt, oGe, oCmp, isB, isI, uNeg, D.nrm, bAbs, ixD_num, ixD_den, nrm_rD, wNext, wBrk, wCnt, wRetN, setAll, wFor, wpIk, wiV, wiR1, wiR2, Tn.tgt, Tn.is, wAnd, wOr, wNot, wIf, wIfS, List.getElem?_cons_zero, List.getElem?_cons_succ, List.set_cons_zero, List.set_cons_succ, List.map_cons, List.map_nil, List.length_cons, List.length_nil, List.cons_append, List.nil_append, List.append_nil, List.replicate, reduceIte, Bool.false_eq_true, Nat.zero_add, Nat.reduceAdd, Nat.reduceSub, Int.cast_ofNat_Int, Option.isSome_some, Option.isSome_none, reduceCtorEq, decide_eq_false hb]
      simp only [nil_eq]
      refine mix_loop hL hO hM hc tb fx rest b _ _ _ (fun r hr => sub r (List.mem_cons_of_mem _ hr)) (List.pairwise_cons.mp t).2 (fun r hr => ne r (List.mem_cons_of_mem _ hr)) hb' ?_ k
      obtain ⟨r, hr, h⟩ := hi
      rcases List.mem_cons.mp hr with rfl | hr
      · exfalso; grind
      · exact ⟨r, hr, h⟩
theorem lisL {p : Addr} {xs : List D} (h : M p = some (.lst xs)) : lisO M (.ref p) = some xs := by
  show (match M p with | some (.lst ds) => some ds | _ => none) = _
  rw [h]
theorem vc_mixture {iS iL iO iM : Nat} {s1 s2 s3 s4 s5 s6 : Str} (hS : sp iS = spSpeeds) (hL : sp iL = spLess) (hO : sp iO = spOver) (hM : sp iM = spMinus) : Vc sp (c_mixture iS iL iO iM) [s1, s2, s3, s4, s5, s6] spMixture := by
  rintro ds M Q R ⟨rows, x, rfl, tb, ib, k⟩
  unfold c_mixture startD
  have l2 := tb.l2
  refine vs_cons ?_
  simp only [wpS, wpE, wpEs, wDrop, wRet, wRetN, wSet, wSetT, wPar, wStI, wVar, wLit, wBin, wUn, wCons, wNil, wTup, wLst, wIsN, wCh2, wSl, wpoS, wpoN, wCallF, wCall, wMth, Bo.op, Co.op, Bf.op, Mn.op, oAdd, oSub, oMul, oFdiv, oMod, oPow, oLt, oLe, oGt, oGe, oCmp, isB, isI, uNeg, D.nrm, bAbs, ixD_num, ixD_den, nrm_rD, wNext, wBrk, wCnt, wRetN, setAll, wFor, wpIk, wiV, wiR1, wiR2, Tn.tgt, Tn.is, wAnd, wOr, wNot, wIf, wIfS, List.getElem?_cons_zero, List.getElem?_cons_succ, List.set_cons_zero, List.set_cons_succ, List.map_cons, List.map_nil, List.length_cons, List.length_nil, List.cons_append, List.nil_append, List.append_nil, List.replicate, reduceIte, Bool.false_eq_true, Nat.zero_add, Nat.reduceAdd, Nat.reduceSub, Int.cast_ofNat_Int, Option.isSome_some, Option.isSome_none, reduceCtorEq, hS]
  refine ⟨rows, rfl, Nat.le_trans l2 (by decide), fun p hp => ?_⟩
  have kp : Keep M (updM M p (.lst ((rows.map (·.1)).map rD))) := Keep.new hp
  have gp : (updM M p (.lst ((rows.map (·.1)).map rD))) p = some (.lst ((rows.map (·.1)).map rD)) := updM_same
  generalize updM M p (.lst ((rows.map (·.1)).map rD)) = M1 at kp gp
  refine vs_cons ?_
  simp only [wpS, wpE, wpEs, wDrop, wRet, wRetN, wSet, wSetT, wPar, wStI, wVar, wLit, wBin, wUn, wCons, wNil, wTup, wLst, wIsN, wCh2, wSl, wpoS, wpoN, wCallF, wCall, wMth, Bo.op, Co.op, Bf.op, Mn.op, oAdd, oSub, oMul, oFdiv, oMod, oPow, oLt, oLe, oGt, oGe, oCmp, isB, isI, uNeg, D.nrm, bAbs, ixD_num, ixD_den, nrm_rD, wNext, wBrk, wCnt, wRetN, setAll, wFor, wpIk, wiV, wiR1, wiR2, Tn.tgt, Tn.is, wAnd, wOr, wNot, wIf, wIfS, List.getElem?_cons_zero, List.getElem?_cons_succ, List.set_cons_zero, List.set_cons_succ, List.map_cons, List.map_nil, List.length_cons, List.length_nil, List.cons_append, List.nil_append, List.append_nil, List.replicate, reduceIte, Bool.false_eq_true, Nat.zero_add, Nat.reduceAdd, Nat.reduceSub, Int.cast_ofNat_Int, Option.isSome_some, Option.isSome_none, reduceCtorEq, in_rDs gp]
  by_cases hx : x ∈ rows.map (·.1)
  · simp only [wpS, wpE, wpEs, wDrop, wRet, wRetN, wSet, wSetT, wPar, wStI, wVar, wLit, wBin, wUn, wCons, wNil, wTup, wLst, wIsN, wCh2, wSl, wpoS, wpoN, wCallF, wCall, wMth, Bo.op, Co.op, Bf.op, Mn.op, oAdd, oSub, oMul, oFdiv, oMod, oPow, oLt, oLe, oGt, oGe, oCmp, isB, isI, uNeg, D.nrm, bAbs, ixD_num, ixD_den, nrm_rD, wNext, wBrk, wCnt, wRetN, setAll, wFor, wpIk, wiV, wiR1, wiR2, Tn.tgt, Tn.is, wAnd, wOr, wNot, wIf, wIfS, List.getElem?_cons_zero, List.getElem?_cons_succ, List.set_cons_zero, List.set_cons_succ, List.map_cons, List.map_nil, List.length_cons, List.length_nil, List.cons_append, List.nil_append, List.append_nil, List.replicate, reduceIte, Bool.false_eq_true, Nat.zero_add, Nat.reduceAdd, Nat.reduceSub, Int.cast_ofNat_Int, Option.isSome_some, Option.isSome_none, reduceCtorEq, decide_eq_true hx]
    refine vs_cons ?_
    simp only [wpS, wpE, wpEs, wDrop, wRet, wRetN, wSet, wSetT, wPar, wStI, wVar, wLit, wBin, wUn, wCons, wNil, wTup, wLst, wIsN, wCh2, wSl, wpoS, wpoN, wCallF, wCall, wMth, Bo.op, Co.op, Bf.op, Mn.op, oAdd, oSub, oMul, oFdiv, oMod, oPow, oLt, oLe, oGt, oGe, oCmp, isB, isI, uNeg, D.nrm, bAbs, ixD_num, ixD_den, nrm_rD, wNext, wBrk, wCnt, wRetN, setAll, wFor, wpIk, wiV, wiR1, wiR2, Tn.tgt, Tn.is, wAnd, wOr, wNot, wIf, wIfS, List.getElem?_cons_zero, List.getElem?_cons_succ, List.set_cons_zero, List.set_cons_succ, List.map_cons, List.map_nil, List.length_cons, List.length_nil, List.cons_append, List.nil_append, List.append_nil, List.replicate, reduceIte, Bool.false_eq_true, Nat.zero_add, Nat.reduceAdd, Nat.reduceSub, Int.cast_ofNat_Int, Option.isSome_some, Option.isSome_none, reduceCtorEq, rD1]
    refine ⟨by decide, by decide, ?_⟩
    have := k M1 kp
    obtain ⟨r, hr, e⟩ := List.mem_map.mp hx
    rw [due_mem tb.inc ⟨r, hr, e⟩ tb.l1] at this
    exact this
  · simp only [wpS, wpE, wpEs, wDrop, wRet, wRetN, wSet, wSetT, wPar, wStI, wVar, wLit, wBin, wUn, wCons, wNil, wTup, wLst, wIsN, wCh2, wSl, wpoS, wpoN, wCallF, wCall, wMth, Bo.op, Co.op, Bf.op, Mn.op, oAdd, oSub, oMul, oFdiv, oMod, oPow, oLt, oLe, oGt, oGe, oCmp, isB, isI, uNeg, D.nrm, bAbs, ixD_num, ixD_den, nrm_rD, wNext, wBrk, wCnt, wRetN, setAll, wFor, wpIk, wiV, wiR1, wiR2, Tn.tgt, Tn.is, wAnd, wOr, wNot, wIf, wIfS, List.getElem?_cons_zero, List.getElem?_cons_succ, List.set_cons_zero, List.set_cons_succ, List.map_cons, List.map_nil, List.length_cons, List.length_nil, List.cons_append, List.nil_append, List.append_nil, List.replicate, reduceIte, Bool.false_eq_true, Nat.zero_add, Nat.reduceAdd, Nat.reduceSub, Int.cast_ofNat_Int, Option.isSome_some, Option.isSome_none, reduceCtorEq, decide_eq_false hx]
    simp only [nil_eq]
    refine vs_cons ?_
    simp only [wpS, wpE, wpEs, wDrop, wRet, wRetN, wSet, wSetT, wPar, wStI, wVar, wLit, wBin, wUn, wCons, wNil, wTup, wLst, wIsN, wCh2, wSl, wpoS, wpoN, wCallF, wCall, wMth, Bo.op, Co.op, Bf.op, Mn.op, oAdd, oSub, oMul, oFdiv, oMod, oPow, oLt, oLe, oGt, oGe, oCmp, isB, isI, uNeg, D.nrm, bAbs, ixD_num, ixD_den, nrm_rD, wNext, wBrk, wCnt, wRetN, setAll, wFor, wpIk, wiV, wiR1, wiR2, Tn.tgt, Tn.is, wAnd, wOr, wNot, wIf, wIfS, List.getElem?_cons_zero, List.getElem?_cons_succ, List.set_cons_zero, List.set_cons_succ, List.map_cons, List.map_nil, List.length_cons, List.length_nil, List.cons_append, List.nil_append, List.append_nil, List.replicate, reduceIte, Bool.false_eq_true, Nat.zero_add, Nat.reduceAdd, Nat.reduceSub, Int.cast_ofNat_Int, Option.isSome_some, Option.isSome_none, reduceCtorEq, slL gp, cut1, wiZ]
    intro q hq
    have pq : p ≠ q := by rintro rfl; rw [gp] at hq; cases hq
    obtain ⟨M2, e2⟩ : ∃ M2, M2 = updM M1 q (.lst (List.drop 1 ((rows.map (·.1)).map rD))) := ⟨_, rfl⟩
    have g1 : M2 p = some (.lst ((rows.map (·.1)).map rD)) := by rw [e2, updM_ne pq]; exact gp
    have g2 : M2 q = some (.lst (List.drop 1 ((rows.map (·.1)).map rD))) := by rw [e2]; exact updM_same
    have k2 : Keep M M2 := kp.trans (by rw [e2]; exact Keep.new hq)
    rw [← e2]
    simp only [lisL g1, lisL g2]
    obtain ⟨a, r, e, hlo⟩ := head_lo tb.inc ib.lo
    have hk := k M2 k2
    have ne : ∀ y ∈ rows, y.1 ≠ x := fun y hy z => hx (List.mem_map.mpr ⟨y, hy, z⟩)
    have inc := tb.inc
    have hhi := ib.hi
    have sub : ∀ y ∈ rows, y ∈ rows := fun _ h => h
    rw [e] at ne inc hhi hk
    rw [e] at g1 g2
    have sub2 : ∀ y ∈ a :: r, y ∈ rows := fun y hy => by rw [e]; exact hy
    rw [e]
    refine mix_loop hL hO hM (chk := fun M => chkO (.ref p) _ M ∧ chkO (.ref q) _ M) ⟨g1, g2⟩ tb ib.ft r a _ _ _ sub2 inc ne ?_ hhi hk
    have := ne a List.mem_cons_self
    grind
/-- _law_due: _law_table_here, _law_speed, _law_low, _law_high, _law_part_here -/
def c_law_due (i_law_less i_law_over i_law_minus : Nat) : List Sx := [.for_ (.tp [2, 3]) .zip (.ix (.var 0) (.lit (.int 1))) (.sl (.ix (.var 0) (.lit (.int 1))) true false (.lit (.int 1)) .nev) [.ife (.cmp .in_ (.var 1) (.tup [.ix (.var 2) (.lit (.int 0)), .ix (.var 3) (.lit (.int 0))])) [.ret (.tup [.tup [.var 1, .tup [.lit (.int 1), .lit (.int 1)]]])] [], .ife (.and_ (.call i_law_less [.ix (.var 2) (.lit (.int 0)), .var 1]) (.call i_law_less [.var 1, .ix (.var 3) (.lit (.int 0))])) [.set 4 (.call i_law_over [.call i_law_minus [.var 1, .ix (.var 2) (.lit (.int 0))], .call i_law_minus [.ix (.var 3) (.lit (.int 0)), .ix (.var 2) (.lit (.int 0))]]), .ret (.tup [.tup [.ix (.var 2) (.lit (.int 0)), .call i_law_minus [.tup [.lit (.int 1), .lit (.int 1)], .var 4]], .tup [.ix (.var 3) (.lit (.int 0)), .var 4]])] []], .ret (.tup [])]
theorem due_loop {iL iO iM : Nat} (hL : sp iL = spLess) (hO : sp iO = spOver) (hM : sp iM = spMinus) {x : Rat} {E : ME} {d0 : D} {rows0 : Rows2} (tb : TbOk rows0) (fx : Ft (LL * LL) (36 * cc) x) :
    ∀ (rest : Rows2) (a : Rat × Rat) (x2 x3 x4 : Option D), (∀ r ∈ a :: rest, r ∈ rows0) → (a :: rest).Pairwise (fun a b => a.1 < b.1) → (dueM (a :: rest) x ≠ [] ∨ ∀ x2 x3 x4, E.nx [some d0, some (rD x), x2, x3, x4] M) → E.rt (mixD (dueM (a :: rest) x)) M →
    goFor (tgT [2, 3]) (fun _ => True) (wpSs sp R ((fun (i_law_less i_law_over i_law_minus : Nat) => ([.ife (.cmp .in_ (.var 1) (.tup [.ix (.var 2) (.lit (.int 0)), .ix (.var 3) (.lit (.int 0))])) [.ret (.tup [.tup [.var 1, .tup [.lit (.int 1), .lit (.int 1)]]])] [], .ife (.and_ (.call i_law_less [.ix (.var 2) (.lit (.int 0)), .var 1]) (.call i_law_less [.var 1, .ix (.var 3) (.lit (.int 0))])) [.set 4 (.call i_law_over [.call i_law_minus [.var 1, .ix (.var 2) (.lit (.int 0))], .call i_law_minus [.ix (.var 3) (.lit (.int 0)), .ix (.var 2) (.lit (.int 0))]]), .ret (.tup [.tup [.ix (.var 2) (.lit (.int 0)), .call i_law_minus [.tup [.lit (.int 1), .lit (.int 1)], .var 4]], .tup [.ix (.var 3) (.lit (.int 0)), .var 4]])] []] : List Sx)) iL iO iM)) E (zipD ((a :: rest).map rowD) (rest.map rowD)) [some d0, some (rD x), x2, x3, x4] M
  | [], a, x2, x3, x4, sub, t, hn, k => by
    rcases hn with hn | hn
    · exact absurd rfl hn
    · exact ⟨trivial, hn _ _ _⟩
  | b :: rest, a, x2, x3, x4, sub, t, hn, k => by
    have ma := sub a List.mem_cons_self
    have mb := sub b (List.mem_cons_of_mem _ List.mem_cons_self)
    have ab := (List.pairwise_cons.mp t).1 b List.mem_cons_self
    have fa := tb.s a ma
    have fb := tb.s b mb
    unfold dueM at k hn
    refine ⟨trivial, ?_⟩
    simp only [tgT, D.nrm, setAll, List.set_cons_succ, List.set_cons_zero]
    refine vs_cons ?_
    simp only [wpS, wpE, wpEs, wDrop, wRet, wRetN, wSet, wSetT, wPar, wStI, wVar, wLit, wBin, wUn, wCons, wNil, wTup, wLst, wIsN, wCh2, wSl, wpoS, wpoN, wCallF, wCall, wMth, Bo.op, Co.op, Bf.op, Mn.op, oAdd, oSub, oMul, oFdiv, oMod, oPow, oLt, oLe, oGt, oGe, oCmp, isB, isI, uNeg, D.nrm, bAbs, ixD_num, ixD_den, nrm_rD, wNext, wBrk, wCnt, wRetN, setAll, wFor, wpIk, wiV, wiR1, wiR2, Tn.tgt, Tn.is, wAnd, wOr, wNot, wIf, wIfS, List.getElem?_cons_zero, List.getElem?_cons_succ, List.set_cons_zero, List.set_cons_succ, List.map_cons, List.map_nil, List.length_cons, List.length_nil, List.cons_append, List.nil_append, List.append_nil, List.replicate, reduceIte, Bool.false_eq_true, Nat.zero_add, Nat.reduceAdd, Nat.reduceSub, Int.cast_ofNat_Int, Option.isSome_some, Option.isSome_none, reduceCtorEq, row0, in_tup2]
    refine ⟨by decide, ?_⟩
    by_cases h : x = a.1 ∨ x = b.1
    · rw [if_pos h] at k
      simp only [wpS, wpE, wpEs, wDrop, wRet, wRetN, wSet, wSetT, wPar, wStI, wVar, wLit, wBin, wUn, wCons, wNil, wTup, wLst, wIsN, wCh2, wSl, wpoS, wpoN, wCallF, wCall, wMth, Bo.op, Co.op, Bf.op, Mn.op, oAdd, oSub, oMul, oFdiv, oMod, oPow, oLt, oLe, oGt, oGe, oCmp, isB, isI, uNeg, D.nrm, bAbs, ixD_num, ixD_den, nrm_rD, wNext, wBrk, wCnt, wRetN, setAll, wFor, wpIk, wiV, wiR1, wiR2, Tn.tgt, Tn.is, wAnd, wOr, wNot, wIf, wIfS, List.getElem?_cons_zero, List.getElem?_cons_succ, List.set_cons_zero, List.set_cons_succ, List.map_cons, List.map_nil, List.length_cons, List.length_nil, List.cons_append, List.nil_append, List.append_nil, List.replicate, reduceIte, Bool.false_eq_true, Nat.zero_add, Nat.reduceAdd, Nat.reduceSub, Int.cast_ofNat_Int, Option.isSome_some, Option.isSome_none, reduceCtorEq, decide_eq_true h]
      refine vs_cons ?_
      simp only [wpS, wpE, wpEs, wDrop, wRet, wRetN, wSet, wSetT, wPar, wStI, wVar, wLit, wBin, wUn, wCons, wNil, wTup, wLst, wIsN, wCh2, wSl, wpoS, wpoN, wCallF, wCall, wMth, Bo.op, Co.op, Bf.op, Mn.op, oAdd, oSub, oMul, oFdiv, oMod, oPow, oLt, oLe, oGt, oGe, oCmp, isB, isI, uNeg, D.nrm, bAbs, ixD_num, ixD_den, nrm_rD, wNext, wBrk, wCnt, wRetN, setAll, wFor, wpIk, wiV, wiR1, wiR2, Tn.tgt, Tn.is, wAnd, wOr, wNot, wIf, wIfS, List.getElem?_cons_zero, List.getElem?_cons_succ, List.set_cons_zero, List.set_cons_succ, List.map_cons, List.map_nil, List.length_cons, List.length_nil, List.cons_append, List.nil_append, List.append_nil, List.replicate, reduceIte, Bool.false_eq_true, Nat.zero_add, Nat.reduceAdd, Nat.reduceSub, Int.cast_ofNat_Int, Option.isSome_some, Option.isSome_none, reduceCtorEq, rD1]
      exact ⟨by decide, by decide, by decide, k⟩
    · rw [if_neg h] at k hn
      simp only [wpS, wpE, wpEs, wDrop, wRet, wRetN, wSet, wSetT, wPar, wStI, wVar, wLit, wBin, wUn, wCons, wNil, wTup, wLst, wIsN, wCh2, wSl, wpoS, wpoN, wCallF, wCall, wMth, Bo.op, Co.op, Bf.op, Mn.op, oAdd, oSub, oMul, oFdiv, oMod, oPow, oLt, oLe, oGt, oGe, oCmp, isB, isI, uNeg, D.nrm, bAbs, ixD_num, ixD_den, nrm_rD, wNext, wBrk, wCnt, wRetN, setAll, wFor, wpIk, wiV, wiR1, wiR2, Tn.tgt, Tn.is, wAnd, wOr, wNot, wIf, wIfS, List.getElem?_cons_zero, List.getElem?_cons_succ, List.set_cons_zero, List.set_cons_succ, List.map_cons, List.map_nil, List.length_cons, List.length_nil, List.cons_append, List.nil_append, List.append_nil, List.replicate, reduceIte, Bool.false_eq_true, Nat.zero_add, Nat.reduceAdd, Nat.reduceSub, Int.cast_ofNat_Int, Option.isSome_some, Option.isSome_none, reduceCtorEq, decide_eq_false h]
      simp only [nil_eq]
      refine vs_cons ?_
      simp only [wpS, wpE, wpEs, wDrop, wRet, wRetN, wSet, wSetT, wPar, wStI, wVar, wLit, wBin, wUn, wCons, wNil, wTup, wLst, wIsN, wCh2, wSl, wpoS, wpoN, wCallF, wCall, wMth, Bo.op, Co.op, Bf.op, Mn.op, oAdd, oSub, oMul, oFdiv, oMod, oPow, oLt, oLe, oGt, oGe, oCmp, isB, isI, uNeg, D.nrm, bAbs, ixD_num, ixD_den, nrm_rD, wNext, wBrk, wCnt, wRetN, setAll, wFor, wpIk, wiV, wiR1, wiR2, Tn.tgt, Tn.is, wAnd, wOr, wNot, wIf, wIfS, List.getElem?_cons_zero, List.getElem?_cons_succ, List.set_cons_zero, List.set_cons_succ, List.map_cons, List.map_nil, List.length_cons, List.length_nil, List.cons_append, List.nil_append, List.append_nil, List.replicate, reduceIte, Bool.false_eq_true, Nat.zero_add, Nat.reduceAdd, Nat.reduceSub, Int.cast_ofNat_Int, Option.isSome_some, Option.isSome_none, reduceCtorEq, row0, hL]
      refine ⟨_, _, rfl, okS fa, okX fx, ?_⟩
      by_cases h1 : a.1 < x
      · simp only [wpS, wpE, wpEs, wDrop, wRet, wRetN, wSet, wSetT, wPar, wStI, wVar, wLit, wBin, wUn, wCons, wNil, wTup, wLst, wIsN, wCh2, wSl, wpoS, wpoN, wCallF, wCall, wMth, Bo.op, Co.op, Bf.op, Mn.op, oAdd, oSub, oMul, oFdiv, oMod, oPow, oLt, oLe, oGt, oGe, oCmp, isB, isI, uNeg, D.nrm, bAbs, ixD_num, ixD_den, nrm_rD, wNext, wBrk, wCnt, wRetN, setAll, wFor, wpIk, wiV, wiR1, wiR2, Tn.tgt, Tn.is, wAnd, wOr, wNot, wIf, wIfS, List.getElem?_cons_zero, List.getElem?_cons_succ, List.set_cons_zero, List.set_cons_succ, List.map_cons, List.map_nil, List.length_cons, List.length_nil, List.cons_append, List.nil_append, List.append_nil, List.replicate, reduceIte, Bool.false_eq_true, Nat.zero_add, Nat.reduceAdd, Nat.reduceSub, Int.cast_ofNat_Int, Option.isSome_some, Option.isSome_none, reduceCtorEq, decide_eq_true h1, hL]
        refine ⟨_, _, rfl, okX fx, okS fb, ?_⟩
        by_cases h2 : x < b.1
        · rw [if_pos ⟨h1, h2⟩] at k
          have po := partOk fa fb fx ab (Rat.le_of_lt h1) (Rat.le_of_lt h2)
          simp only [wpS, wpE, wpEs, wDrop, wRet, wRetN, wSet, wSetT, wPar, wStI, wVar, wLit, wBin, wUn, wCons, wNil, wTup, wLst, wIsN, wCh2, wSl, wpoS, wpoN, wCallF, wCall, wMth, Bo.op, Co.op, Bf.op, Mn.op, oAdd, oSub, oMul, oFdiv, oMod, oPow, oLt, oLe, oGt, oGe, oCmp, isB, isI, uNeg, D.nrm, bAbs, ixD_num, ixD_den, nrm_rD, wNext, wBrk, wCnt, wRetN, setAll, wFor, wpIk, wiV, wiR1, wiR2, Tn.tgt, Tn.is, wAnd, wOr, wNot, wIf, wIfS, List.getElem?_cons_zero, List.getElem?_cons_succ, List.set_cons_zero, List.set_cons_succ, List.map_cons, List.map_nil, List.length_cons, List.length_nil, List.cons_append, List.nil_append, List.append_nil, List.replicate, reduceIte, Bool.false_eq_true, Nat.zero_add, Nat.reduceAdd, Nat.reduceSub, Int.cast_ofNat_Int, Option.isSome_some, Option.isSome_none, reduceCtorEq, decide_eq_true h2]
          refine vs_cons ?_
          simp only [wpS, wpE, wpEs, wDrop, wRet, wRetN, wSet, wSetT, wPar, wStI, wVar, wLit, wBin, wUn, wCons, wNil, wTup, wLst, wIsN, wCh2, wSl, wpoS, wpoN, wCallF, wCall, wMth, Bo.op, Co.op, Bf.op, Mn.op, oAdd, oSub, oMul, oFdiv, oMod, oPow, oLt, oLe, oGt, oGe, oCmp, isB, isI, uNeg, D.nrm, bAbs, ixD_num, ixD_den, nrm_rD, wNext, wBrk, wCnt, wRetN, setAll, wFor, wpIk, wiV, wiR1, wiR2, Tn.tgt, Tn.is, wAnd, wOr, wNot, wIf, wIfS, List.getElem?_cons_zero, List.getElem?_cons_succ, List.set_cons_zero, List.set_cons_succ, List.map_cons, List.map_nil, List.length_cons, List.length_nil, List.cons_append, List.nil_append, List.append_nil, List.replicate, reduceIte, Bool.false_eq_true, Nat.zero_add, Nat.reduceAdd, Nat.reduceSub, Int.cast_ofNat_Int, Option.isSome_some, Option.isSome_none, reduceCtorEq, row0, hO, hM]
          refine ⟨_, _, rfl, okX fx, okS fa, _, _, rfl, okS fb, okS fa, _, _, rfl, po.xa, po.ba, po.pos, ?_⟩
          refine vs_cons ?_
          simp only [wpS, wpE, wpEs, wDrop, wRet, wRetN, wSet, wSetT, wPar, wStI, wVar, wLit, wBin, wUn, wCons, wNil, wTup, wLst, wIsN, wCh2, wSl, wpoS, wpoN, wCallF, wCall, wMth, Bo.op, Co.op, Bf.op, Mn.op, oAdd, oSub, oMul, oFdiv, oMod, oPow, oLt, oLe, oGt, oGe, oCmp, isB, isI, uNeg, D.nrm, bAbs, ixD_num, ixD_den, nrm_rD, wNext, wBrk, wCnt, wRetN, setAll, wFor, wpIk, wiV, wiR1, wiR2, Tn.tgt, Tn.is, wAnd, wOr, wNot, wIf, wIfS, List.getElem?_cons_zero, List.getElem?_cons_succ, List.set_cons_zero, List.set_cons_succ, List.map_cons, List.map_nil, List.length_cons, List.length_nil, List.cons_append, List.nil_append, List.append_nil, List.replicate, reduceIte, Bool.false_eq_true, Nat.zero_add, Nat.reduceAdd, Nat.reduceSub, Int.cast_ofNat_Int, Option.isSome_some, Option.isSome_none, reduceCtorEq, row0, hM, rD1]
          exact ⟨by decide, _, _, rfl, ok1, po.t, by decide, by decide, by decide, k⟩
        · rw [if_neg (fun z => h2 z.2)] at k hn
          simp only [wpS, wpE, wpEs, wDrop, wRet, wRetN, wSet, wSetT, wPar, wStI, wVar, wLit, wBin, wUn, wCons, wNil, wTup, wLst, wIsN, wCh2, wSl, wpoS, wpoN, wCallF, wCall, wMth, Bo.op, Co.op, Bf.op, Mn.op, oAdd, oSub, oMul, oFdiv, oMod, oPow, oLt, oLe, oGt, oGe, oCmp, isB, isI, uNeg, D.nrm, bAbs, ixD_num, ixD_den, nrm_rD, wNext, wBrk, wCnt, wRetN, setAll, wFor, wpIk, wiV, wiR1, wiR2, Tn.tgt, Tn.is, wAnd, wOr, wNot, wIf, wIfS, List.getElem?_cons_zero, List.getElem?_cons_succ, List.set_cons_zero, List.set_cons_succ, List.map_cons, List.map_nil, List.length_cons, List.length_nil, List.cons_append, List.nil_append, List.append_nil, List.replicate, reduceIte, Bool.false_eq_true, Nat.zero_add, Nat.reduceAdd, Nat.reduceSub, Int.cast_ofNat_Int, Option.isSome_some, Option.isSome_none, reduceCtorEq, decide_eq_false h2]
          simp only [nil_eq]
          exact due_loop hL hO hM tb fx rest b _ _ _ (fun r hr => sub r (List.mem_cons_of_mem _ hr)) (List.pairwise_cons.mp t).2 hn k
      · rw [if_neg (fun z => h1 z.1)] at k hn
        simp only [wpS, wpE, wpEs, wDrop, wRet, wRetN, wSet, wSetT, wPar, wStI, wVar, wLit, wBin, wUn, wCons, wNil, wTup, wLst, wIsN, wCh2, wSl, wpoS, wpoN, wCallF, wCall, wMth, Bo.op, Co.op, Bf.op, Mn.op, oAdd, oSub, oMul, oFdiv, oMod, oPow, oLt, oLe, oGt, oGe, oCmp, isB, isI, uNeg, D.nrm, bAbs, ixD_num, ixD_den, nrm_rD, wNext, wBrk, wCnt, wRetN, setAll, wFor, wpIk, wiV, wiR1, wiR2, Tn.tgt, Tn.is, wAnd, wOr, wNot, wIf, wIfS, List.getElem?_cons_zero, List.getElem?_cons_succ, List.set_cons_zero, List.set_cons_succ, List.map_cons, List.map_nil, List.length_cons, List.length_nil, List.cons_append, List.nil_append, List.append_nil, List.replicate, reduceIte, Bool.false_eq_true, Nat.zero_add, Nat.reduceAdd, Nat.reduceSub, Int.cast_ofNat_Int, Option.isSome_some, Option.isSome_none, reduceCtorEq, decide_eq_false h1]
        simp only [nil_eq]
        exact due_loop hL hO hM tb fx rest b _ _ _ (fun r hr => sub r (List.mem_cons_of_mem _ hr)) (List.pairwise_cons.mp t).2 hn k
theorem vc_due {iL iO iM : Nat} {s1 s2 s3 s4 s5 : Str} (hL : sp iL = spLess) (hO : sp iO = spOver) (hM : sp iM = spMinus) : Vc sp (c_law_due iL iO iM) [s1, s2, s3, s4, s5] spDue := by
  rintro ds M Q R ⟨rows, x, rfl, tb, ib, k⟩
  unfold c_law_due startD
  refine vs_cons ?_
  simp only [wpS, wpE, wpEs, wDrop, wRet, wRetN, wSet, wSetT, wPar, wStI, wVar, wLit, wBin, wUn, wCons, wNil, wTup, wLst, wIsN, wCh2, wSl, wpoS, wpoN, wCallF, wCall, wMth, Bo.op, Co.op, Bf.op, Mn.op, oAdd, oSub, oMul, oFdiv, oMod, oPow, oLt, oLe, oGt, oGe, oCmp, isB, isI, uNeg, D.nrm, bAbs, ixD_num, ixD_den, nrm_rD, wNext, wBrk, wCnt, wRetN, setAll, wFor, wpIk, wiV, wiR1, wiR2, Tn.tgt, Tn.is, wAnd, wOr, wNot, wIf, wIfS, List.getElem?_cons_zero, List.getElem?_cons_succ, List.set_cons_zero, List.set_cons_succ, List.map_cons, List.map_nil, List.length_cons, List.length_nil, List.cons_append, List.nil_append, List.append_nil, List.replicate, reduceIte, Bool.false_eq_true, Nat.zero_add, Nat.reduceAdd, Nat.reduceSub, Int.cast_ofNat_Int, Option.isSome_some, Option.isSome_none, reduceCtorEq, tbl1, slTq, cut1, wiZ]
  obtain ⟨a, r, e, hlo⟩ := head_lo tb.inc ib.lo
  have sub2 : ∀ y ∈ a :: r, y ∈ rows := fun y hy => by rw [e]; exact hy
  have inc := tb.inc
  rw [e] at inc k ⊢
  refine due_loop hL hO hM tb ib.ft r a _ _ _ sub2 inc ?_ k
  by_cases hn : dueM (a :: r) x = []
  · refine .inr fun _ _ _ => ?_
    refine vs_cons ?_
    simp only [wpS, wpE, wpEs, wDrop, wRet, wRetN, wSet, wSetT, wPar, wStI, wVar, wLit, wBin, wUn, wCons, wNil, wTup, wLst, wIsN, wCh2, wSl, wpoS, wpoN, wCallF, wCall, wMth, Bo.op, Co.op, Bf.op, Mn.op, oAdd, oSub, oMul, oFdiv, oMod, oPow, oLt, oLe, oGt, oGe, oCmp, isB, isI, uNeg, D.nrm, bAbs, ixD_num, ixD_den, nrm_rD, wNext, wBrk, wCnt, wRetN, setAll, wFor, wpIk, wiV, wiR1, wiR2, Tn.tgt, Tn.is, wAnd, wOr, wNot, wIf, wIfS, List.getElem?_cons_zero, List.getElem?_cons_succ, List.set_cons_zero, List.set_cons_succ, List.map_cons, List.map_nil, List.length_cons, List.length_nil, List.cons_append, List.nil_append, List.append_nil, List.replicate, reduceIte, Bool.false_eq_true, Nat.zero_add, Nat.reduceAdd, Nat.reduceSub, Int.cast_ofNat_Int, Option.isSome_some, Option.isSome_none, reduceCtorEq]
    rw [hn] at k
    exact ⟨by decide, k⟩
  · exact .inl hn
end
end Pz


set_option Elab.async false
set_option linter.all false
set_option autoImplicit false
set_option maxRecDepth 100000
set_option maxHeartbeats 4000000
/-! Mixtures: the walk, third part. -/
namespace Pz
open PySem PySem.Spec L2
open PyProof.Rows hiding St

section
variable {sp : Nat → Spec} {M : MH} {Q : Pt} {R : XPt} {ds : List D}
def spPower : Spec := fun ds M Q _ => ∃ (rows : Rows2) (x : Rat), ds = [tblD rows, rD x] ∧ TbOk rows ∧ InB rows x ∧ Q (rD (powR rows x)) M
/-- _law_power: _law_rule_here, _law_speed, _law_found, _law_k, _law_low, _law_high, _law_slope -/
def c_law_power (i_law_times i_law_less i_law_over i_law_minus i_law_plus : Nat) : List Sx := [.ife (.cmp .eq (.ix (.var 0) (.lit (.int 0))) (.lit (.str "power"))) [.set 2 (.var 1), .for_ (.nm 3) .r1 (.bin .sub (.ix (.var 0) (.lit (.int 1))) (.lit (.int 1))) (.bin .sub (.ix (.var 0) (.lit (.int 1))) (.lit (.int 1))) [.set 2 (.call i_law_times [.var 2, .var 1])], .ret (.var 2)] [], .for_ (.tp [4, 5]) .zip (.ix (.var 0) (.lit (.int 1))) (.sl (.ix (.var 0) (.lit (.int 1))) true false (.lit (.int 1)) .nev) [.ife (.not_ (.call i_law_less [.ix (.var 5) (.lit (.int 0)), .var 1])) [.set 6 (.call i_law_over [.call i_law_minus [.ix (.var 5) (.lit (.int 1)), .ix (.var 4) (.lit (.int 1))], .call i_law_minus [.ix (.var 5) (.lit (.int 0)), .ix (.var 4) (.lit (.int 0))]]), .ret (.call i_law_plus [.ix (.var 4) (.lit (.int 1)), .call i_law_times [.var 6, .call i_law_minus [.var 1, .ix (.var 4) (.lit (.int 0))]]])] []], .ret (.lit .non)]
theorem pow_loop {iL iO iM iA iT : Nat} (hL : sp iL = spLess) (hO : sp iO = spOver) (hM : sp iM = spMinus) (hA : sp iA = spPlus) (hT : sp iT = spTimes) {x : Rat} {E : ME} {d0 : D} {x2 x3 : Option D} {rows0 : Rows2} (tb : TbOk rows0) (fx : Ft (LL * LL) (36 * cc) x) :
    ∀ (rest : Rows2) (a : Rat × Rat) (x4 x5 x6 : Option D), (∀ r ∈ a :: rest, r ∈ rows0) → (a :: rest).Pairwise (fun a b => a.1 < b.1) → a.1 ≤ x → (∃ r ∈ rest, x ≤ r.1) → E.rt (rD (powR (a :: rest) x)) M →
    goFor (tgT [4, 5]) (fun _ => True) (wpSs sp R ((fun (i_law_less i_law_over i_law_minus i_law_plus i_law_times : Nat) => ([.ife (.not_ (.call i_law_less [.ix (.var 5) (.lit (.int 0)), .var 1])) [.set 6 (.call i_law_over [.call i_law_minus [.ix (.var 5) (.lit (.int 1)), .ix (.var 4) (.lit (.int 1))], .call i_law_minus [.ix (.var 5) (.lit (.int 0)), .ix (.var 4) (.lit (.int 0))]]), .ret (.call i_law_plus [.ix (.var 4) (.lit (.int 1)), .call i_law_times [.var 6, .call i_law_minus [.var 1, .ix (.var 4) (.lit (.int 0))]]])] []] : List Sx)) iL iO iM iA iT)) E (zipD ((a :: rest).map rowD) (rest.map rowD)) [some d0, some (rD x), x2, x3, x4, x5, x6] M
  | [], a, x4, x5, x6, sub, t, ax, hi, k => by
    obtain ⟨r, hr, _⟩ := hi
    cases hr
  | b :: rest, a, x4, x5, x6, sub, t, ax, hi, k => by
    have ma := sub a List.mem_cons_self
    have mb := sub b (List.mem_cons_of_mem _ List.mem_cons_self)
    have ab := (List.pairwise_cons.mp t).1 b List.mem_cons_self
    have fa := tb.s a ma
    have fb := tb.s b mb
    unfold powR at k
    refine ⟨trivial, ?_⟩
    simp only [tgT, D.nrm, setAll, List.set_cons_succ, List.set_cons_zero]
    refine vs_cons ?_
    simp only [wpS, wpE, wpEs, wDrop, wRet, wRetN, wSet, wSetT, wPar, wStI, wVar, wLit, wBin, wUn, wCons, wNil, wTup, wLst, wIsN, wCh2, wSl, wpoS, wpoN, wCallF, wCall, wMth, Bo.op, Co.op, Bf.op, Mn.op, oAdd, oSub, oMul, oFdiv, oMod, oPow, oLt, oLe, oGt, oGe, oCmp, isB, isI, uNeg, D.nrm, bAbs, ixD_num, ixD_den, nrm_rD, wNext, wBrk, wCnt, wRetN, setAll, wFor, wpIk, wiV, wiR1, wiR2, Tn.tgt, Tn.is, wAnd, wOr, wNot, wIf, wIfS, List.getElem?_cons_zero, List.getElem?_cons_succ, List.set_cons_zero, List.set_cons_succ, List.map_cons, List.map_nil, List.length_cons, List.length_nil, List.cons_append, List.nil_append, List.append_nil, List.replicate, reduceIte, Bool.false_eq_true, Nat.zero_add, Nat.reduceAdd, Nat.reduceSub, Int.cast_ofNat_Int, Option.isSome_some, Option.isSome_none, reduceCtorEq, row0, hL]
    refine ⟨_, _, rfl, okS fb, okX fx, ?_⟩
    by_cases h : b.1 < x
    · rw [if_pos h] at k
      simp only [wpS, wpE, wpEs, wDrop, wRet, wRetN, wSet, wSetT, wPar, wStI, wVar, wLit, wBin, wUn, wCons, wNil, wTup, wLst, wIsN, wCh2, wSl, wpoS, wpoN, wCallF, wCall, wMth, Bo.op, Co.op, Bf.op, Mn.op, oAdd, oSub, oMul, oFdiv, oMod, oPow, oLt, oLe, oGt, oGe, oCmp, isB, isI, uNeg, D.nrm, bAbs, ixD_num, ixD_den, nrm_rD, wNext, wBrk, wCnt, wRetN, setAll, wFor, wpIk, wiV, wiR1, wiR2, Tn.tgt, Tn.is, wAnd, wOr, wNot, wIf, wIfS, List.getElem?_cons_zero, List.getElem?_cons_succ, List.set_cons_zero, List.set_cons_succ, List.map_cons, List.map_nil, List.length_cons, List.length_nil, List.cons_append, List.nil_append, List.append_nil, List.replicate, reduceIte, Bool.false_eq_true, Nat.zero_add, Nat.reduceAdd, Nat.reduceSub, Int.cast_ofNat_Int, Option.isSome_some, Option.isSome_none, reduceCtorEq, decide_eq_true h, Bool.not_true]
      simp only [nil_eq]
      refine pow_loop hL hO hM hA hT tb fx rest b _ _ _ (fun r hr => sub r (List.mem_cons_of_mem _ hr)) (List.pairwise_cons.mp t).2 (Rat.le_of_lt h) ?_ k
      obtain ⟨r, hr, hx⟩ := hi
      rcases List.mem_cons.mp hr with rfl | hr
      · exfalso; grind
      · exact ⟨r, hr, hx⟩
    · rw [if_neg h] at k
      have dv : LL ∣ LL * LL := ⟨LL, rfl⟩
      have fs := fb.sub LL_pos fa
      have fp := (tb.p b mb).sub LL2_pos (tb.p a ma)
      have fx1 := fx.sub LL2_pos (fa.mono dv (Nat.le_refl _))
      obtain ⟨w, w0, w1, fw⟩ := slope_ok tb ma mb ab
      have okw : Ok ((b.2 - a.2) / (b.1 - a.1)) := fw.ok w0 (le_pos w1) (Nat.lt_of_le_of_lt (Nat.mul_le_mul_left _ w1) (by decide +kernel))
      have okm : Ok ((b.2 - a.2) / (b.1 - a.1) * (x - a.1)) := (fw.mul w0 LL2_pos fx1).ok (Nat.mul_pos w0 LL2_pos) (Nat.lt_of_le_of_lt (Nat.mul_le_mul_right _ w1) (by decide +kernel)) (Nat.lt_of_le_of_lt (Nat.mul_le_mul_left _ (Nat.mul_le_mul_right _ w1)) (by decide +kernel))
      simp only [wpS, wpE, wpEs, wDrop, wRet, wRetN, wSet, wSetT, wPar, wStI, wVar, wLit, wBin, wUn, wCons, wNil, wTup, wLst, wIsN, wCh2, wSl, wpoS, wpoN, wCallF, wCall, wMth, Bo.op, Co.op, Bf.op, Mn.op, oAdd, oSub, oMul, oFdiv, oMod, oPow, oLt, oLe, oGt, oGe, oCmp, isB, isI, uNeg, D.nrm, bAbs, ixD_num, ixD_den, nrm_rD, wNext, wBrk, wCnt, wRetN, setAll, wFor, wpIk, wiV, wiR1, wiR2, Tn.tgt, Tn.is, wAnd, wOr, wNot, wIf, wIfS, List.getElem?_cons_zero, List.getElem?_cons_succ, List.set_cons_zero, List.set_cons_succ, List.map_cons, List.map_nil, List.length_cons, List.length_nil, List.cons_append, List.nil_append, List.append_nil, List.replicate, reduceIte, Bool.false_eq_true, Nat.zero_add, Nat.reduceAdd, Nat.reduceSub, Int.cast_ofNat_Int, Option.isSome_some, Option.isSome_none, reduceCtorEq, decide_eq_false h, Bool.not_false]
      refine vs_cons ?_
      simp only [wpS, wpE, wpEs, wDrop, wRet, wRetN, wSet, wSetT, wPar, wStI, wVar, wLit, wBin, wUn, wCons, wNil, wTup, wLst, wIsN, wCh2, wSl, wpoS, wpoN, wCallF, wCall, wMth, Bo.op, Co.op, Bf.op, Mn.op, oAdd, oSub, oMul, oFdiv, oMod, oPow, oLt, oLe, oGt, oGe, oCmp, isB, isI, uNeg, D.nrm, bAbs, ixD_num, ixD_den, nrm_rD, wNext, wBrk, wCnt, wRetN, setAll, wFor, wpIk, wiV, wiR1, wiR2, Tn.tgt, Tn.is, wAnd, wOr, wNot, wIf, wIfS, List.getElem?_cons_zero, List.getElem?_cons_succ, List.set_cons_zero, List.set_cons_succ, List.map_cons, List.map_nil, List.length_cons, List.length_nil, List.cons_append, List.nil_append, List.append_nil, List.replicate, reduceIte, Bool.false_eq_true, Nat.zero_add, Nat.reduceAdd, Nat.reduceSub, Int.cast_ofNat_Int, Option.isSome_some, Option.isSome_none, reduceCtorEq, row0, row1, hO, hM]
      refine ⟨_, _, rfl, okP (tb.p b mb), okP (tb.p a ma), _, _, rfl, okS fb, okS fa, _, _, rfl, fp.ok LL2_pos (by decide +kernel) (by decide +kernel), fs.ok LL_pos (by decide +kernel) (by decide +kernel), by grind, ?_⟩
      refine vs_cons ?_
      simp only [wpS, wpE, wpEs, wDrop, wRet, wRetN, wSet, wSetT, wPar, wStI, wVar, wLit, wBin, wUn, wCons, wNil, wTup, wLst, wIsN, wCh2, wSl, wpoS, wpoN, wCallF, wCall, wMth, Bo.op, Co.op, Bf.op, Mn.op, oAdd, oSub, oMul, oFdiv, oMod, oPow, oLt, oLe, oGt, oGe, oCmp, isB, isI, uNeg, D.nrm, bAbs, ixD_num, ixD_den, nrm_rD, wNext, wBrk, wCnt, wRetN, setAll, wFor, wpIk, wiV, wiR1, wiR2, Tn.tgt, Tn.is, wAnd, wOr, wNot, wIf, wIfS, List.getElem?_cons_zero, List.getElem?_cons_succ, List.set_cons_zero, List.set_cons_succ, List.map_cons, List.map_nil, List.length_cons, List.length_nil, List.cons_append, List.nil_append, List.append_nil, List.replicate, reduceIte, Bool.false_eq_true, Nat.zero_add, Nat.reduceAdd, Nat.reduceSub, Int.cast_ofNat_Int, Option.isSome_some, Option.isSome_none, reduceCtorEq, row0, row1, hA, hT, hM]
      exact ⟨_, _, rfl, okX fx, okS fa, _, _, rfl, okw, fx1.ok LL2_pos (by decide +kernel) (by decide +kernel), _, _, rfl, okP (tb.p a ma), okm, k⟩
theorem pow_name : ¬ ("table" : Str) = "power" := by decide +kernel
theorem hi_rest {a : Rat × Rat} {r : Rows2} {x : Rat} (t : (a :: r).Pairwise fun a b => a.1 < b.1) (l : 2 ≤ (a :: r).length) (h : ∃ y ∈ a :: r, x ≤ y.1) : ∃ y ∈ r, x ≤ y.1 := by
  obtain ⟨y, hy, hx⟩ := h
  rcases List.mem_cons.mp hy with rfl | hy
  · cases r with
    | nil => simp at l
    | cons b r =>
      have := (List.pairwise_cons.mp t).1 b List.mem_cons_self
      exact ⟨b, List.mem_cons_self, by grind⟩
  · exact ⟨y, hy, hx⟩
theorem vc_power {iT iL iO iM iA : Nat} {s1 s2 s3 s4 s5 s6 s7 : Str} (hL : sp iL = spLess) (hO : sp iO = spOver) (hM : sp iM = spMinus) (hA : sp iA = spPlus) (hT : sp iT = spTimes) : Vc sp (c_law_power iT iL iO iM iA) [s1, s2, s3, s4, s5, s6, s7] spPower := by
  rintro ds M Q R ⟨rows, x, rfl, tb, ib, k⟩
  unfold c_law_power startD
  refine vs_cons ?_
  simp only [wpS, wpE, wpEs, wDrop, wRet, wRetN, wSet, wSetT, wPar, wStI, wVar, wLit, wBin, wUn, wCons, wNil, wTup, wLst, wIsN, wCh2, wSl, wpoS, wpoN, wCallF, wCall, wMth, Bo.op, Co.op, Bf.op, Mn.op, oAdd, oSub, oMul, oFdiv, oMod, oPow, oLt, oLe, oGt, oGe, oCmp, isB, isI, uNeg, D.nrm, bAbs, ixD_num, ixD_den, nrm_rD, wNext, wBrk, wCnt, wRetN, setAll, wFor, wpIk, wiV, wiR1, wiR2, Tn.tgt, Tn.is, wAnd, wOr, wNot, wIf, wIfS, List.getElem?_cons_zero, List.getElem?_cons_succ, List.set_cons_zero, List.set_cons_succ, List.map_cons, List.map_nil, List.length_cons, List.length_nil, List.cons_append, List.nil_append, List.append_nil, List.replicate, reduceIte, Bool.false_eq_true, Nat.zero_add, Nat.reduceAdd, Nat.reduceSub, Int.cast_ofNat_Int, Option.isSome_some, Option.isSome_none, reduceCtorEq, tbl0, eq_str, decide_eq_false pow_name]
  simp only [nil_eq]
  refine vs_cons ?_
  simp only [wpS, wpE, wpEs, wDrop, wRet, wRetN, wSet, wSetT, wPar, wStI, wVar, wLit, wBin, wUn, wCons, wNil, wTup, wLst, wIsN, wCh2, wSl, wpoS, wpoN, wCallF, wCall, wMth, Bo.op, Co.op, Bf.op, Mn.op, oAdd, oSub, oMul, oFdiv, oMod, oPow, oLt, oLe, oGt, oGe, oCmp, isB, isI, uNeg, D.nrm, bAbs, ixD_num, ixD_den, nrm_rD, wNext, wBrk, wCnt, wRetN, setAll, wFor, wpIk, wiV, wiR1, wiR2, Tn.tgt, Tn.is, wAnd, wOr, wNot, wIf, wIfS, List.getElem?_cons_zero, List.getElem?_cons_succ, List.set_cons_zero, List.set_cons_succ, List.map_cons, List.map_nil, List.length_cons, List.length_nil, List.cons_append, List.nil_append, List.append_nil, List.replicate, reduceIte, Bool.false_eq_true, Nat.zero_add, Nat.reduceAdd, Nat.reduceSub, Int.cast_ofNat_Int, Option.isSome_some, Option.isSome_none, reduceCtorEq, tbl1, slTq, cut1, wiZ]
  obtain ⟨a, r, e, hlo⟩ := head_lo tb.inc ib.lo
  have sub2 : ∀ y ∈ a :: r, y ∈ rows := fun y hy => by rw [e]; exact hy
  have inc := tb.inc
  have hhi := ib.hi
  have l1 := tb.l1
  rw [e] at inc k hhi l1 ⊢
  exact pow_loop hL hO hM hA hT tb ib.ft r a _ _ _ sub2 inc hlo (hi_rest inc l1 hhi) k

/-! ### the power of a mixture -/
def spMixed : Spec := fun ds M Q _ => ∃ (rows mix : Rows2) (w : Nat), ds = [tblD rows, mixD mix] ∧ TbOk rows ∧ MixOk rows mix w ∧ ∀ M', Keep M M' → Q (rD (mixP rows mix)) M'
/-- mixed_power: table, mix, powers, speed, part -/
def c_mixed_power (i_total i_times : Nat) : List Sx := [.set 2 (.blt .dict [.ix (.var 0) (.lit (.int 1))]), .ret (.call i_total [.lc [3, 4] (.tp [3, 4]) .val (.var 1) (.var 1) (.lit (.bl true)) (.call i_times [.ix (.var 2) (.var 3), .var 4])])]
/-- the list of the powers by parts -/
theorem terms {iT : Nat} (hT : sp iT = spTimes) {rows mix : Rows2} {w : Nat} (tb : TbOk rows) (mk : MixOk rows mix w) {p : Addr} (hp : M p = some (.dic (kvR rows))) {e : Rat × Rat} (he : e ∈ mix) {K : Pt} (k : K (rD (pw rows e.1 * e.2)) M) {d : D} (hd : d = .ref p) :
    oIxD d (rD e.1) M fun x M1 => spTimes [x, rD e.2] M1 K noR := by
  subst hd
  obtain ⟨⟨v, hv⟩, _⟩ := mk.e e he
  rw [ix_dic hp tb.ne hv]
  rw [pw_of tb.ne hv] at k
  exact ⟨_, _, rfl, okP (tb.p _ hv), mk.ok he, k⟩
theorem vc_mixed {iS iT : Nat} {s1 s2 s3 s4 s5 : Str} (hS : sp iS = spSum) (hT : sp iT = spTimes) : Vc sp (c_mixed_power iS iT) [s1, s2, s3, s4, s5] spMixed := by
  rintro ds M Q R ⟨rows, mix, w, rfl, tb, mk, k⟩
  unfold c_mixed_power startD
  refine vs_cons ?_
  simp only [wpS, wpE, wpEs, wDrop, wRet, wRetN, wSet, wSetT, wPar, wStI, wVar, wLit, wBin, wUn, wCons, wNil, wTup, wLst, wIsN, wCh2, wSl, wpoS, wpoN, wCallF, wCall, wMth, Bo.op, Co.op, Bf.op, Mn.op, oAdd, oSub, oMul, oFdiv, oMod, oPow, oLt, oLe, oGt, oGe, oCmp, isB, isI, uNeg, D.nrm, bAbs, ixD_num, ixD_den, nrm_rD, wNext, wBrk, wCnt, wRetN, setAll, wFor, wpIk, wiV, wiR1, wiR2, Tn.tgt, Tn.is, wAnd, wOr, wNot, wIf, wIfS, List.getElem?_cons_zero, List.getElem?_cons_succ, List.set_cons_zero, List.set_cons_succ, List.map_cons, List.map_nil, List.length_cons, List.length_nil, List.cons_append, List.nil_append, List.append_nil, List.replicate, reduceIte, Bool.false_eq_true, Nat.zero_add, Nat.reduceAdd, Nat.reduceSub, Int.cast_ofNat_Int, Option.isSome_some, Option.isSome_none, reduceCtorEq, tbl1]
  refine dict_rows tb.ne (Nat.le_trans tb.l2 (by decide)) fun p hp => ?_
  have gp : (updM M p (.dic (kvR rows))) p = some (.dic (kvR rows)) := updM_same
  have kp : Keep M (updM M p (.dic (kvR rows))) := Keep.new hp
  generalize updM M p (.dic (kvR rows)) = M1 at gp kp
  refine vs_cons ?_
  simp only [wpS, wpE, wpEs, wDrop, wRet, wRetN, wSet, wSetT, wPar, wStI, wVar, wLit, wBin, wUn, wCons, wNil, wTup, wLst, wIsN, wCh2, wSl, wpoS, wpoN, wCallF, wCall, wMth, Bo.op, Co.op, Bf.op, Mn.op, oAdd, oSub, oMul, oFdiv, oMod, oPow, oLt, oLe, oGt, oGe, oCmp, isB, isI, uNeg, D.nrm, bAbs, ixD_num, ixD_den, nrm_rD, wNext, wBrk, wCnt, wRetN, setAll, wFor, wpIk, wiV, wiR1, wiR2, Tn.tgt, Tn.is, wAnd, wOr, wNot, wIf, wIfS, List.getElem?_cons_zero, List.getElem?_cons_succ, List.set_cons_zero, List.set_cons_succ, List.map_cons, List.map_nil, List.length_cons, List.length_nil, List.cons_append, List.nil_append, List.append_nil, List.replicate, reduceIte, Bool.false_eq_true, Nat.zero_add, Nat.reduceAdd, Nat.reduceSub, Int.cast_ofNat_Int, Option.isSome_some, Option.isSome_none, reduceCtorEq, hS, hT, wLc, wipeD]
  show itV (mixD mix) _ _
  unfold mixD
  rw [itTp]
  refine ⟨by rw [List.length_map]; exact Nat.le_trans mk.len (by decide), ?_⟩
  refine goLc_map trivial rowD (fun e => rD (pw rows e.1 * e.2)) mix [] (fun e he => ⟨[some (tblD rows), some (mixD mix), some (.ref p), some (rD e.1), some (rD e.2)], rfl, fun K kk => ?_⟩) fun q hq => ?_
  · simp only [wpS, wpE, wpEs, wDrop, wRet, wRetN, wSet, wSetT, wPar, wStI, wVar, wLit, wBin, wUn, wCons, wNil, wTup, wLst, wIsN, wCh2, wSl, wpoS, wpoN, wCallF, wCall, wMth, Bo.op, Co.op, Bf.op, Mn.op, oAdd, oSub, oMul, oFdiv, oMod, oPow, oLt, oLe, oGt, oGe, oCmp, isB, isI, uNeg, D.nrm, bAbs, ixD_num, ixD_den, nrm_rD, wNext, wBrk, wCnt, wRetN, setAll, wFor, wpIk, wiV, wiR1, wiR2, Tn.tgt, Tn.is, wAnd, wOr, wNot, wIf, wIfS, List.getElem?_cons_zero, List.getElem?_cons_succ, List.set_cons_zero, List.set_cons_succ, List.map_cons, List.map_nil, List.length_cons, List.length_nil, List.cons_append, List.nil_append, List.append_nil, List.replicate, reduceIte, Bool.false_eq_true, Nat.zero_add, Nat.reduceAdd, Nat.reduceSub, Int.cast_ofNat_Int, Option.isSome_some, Option.isSome_none, reduceCtorEq, hT]
    exact terms hT tb mk gp he kk rfl
  · have ee : [] ++ mix.map (fun e => rD (pw rows e.1 * e.2)) = (mix.map fun e => pw rows e.1 * e.2).map rD := by rw [List.nil_append, List.map_map]; rfl
    rw [ee]
    exact ⟨q, _, _, _, rfl, updM_same, mk.sum tb, k _ (kp.trans (Keep.new hq))⟩
end
end Pz


set_option Elab.async false
set_option linter.all false
set_option autoImplicit false
set_option maxRecDepth 100000
set_option maxHeartbeats 4000000
/-! Mixtures: the walk, last part. -/
namespace Pz
open PySem PySem.Spec L2
open PyProof.Rows hiding St

section
variable {sp : Nat → Spec} {M : MH} {Q : Pt} {R : XPt} {ds : List D}
/-! ### a drawn mixture -/
def spMix : Spec := fun ds M Q _ => ∃ (t : Tp) (n : Nat) (rows : Rows2), ds = [.ref t.a, tblD rows] ∧ TbOk rows ∧ Tape M t (n + 72) ∧ ∀ mix w M', MixOk rows mix w → Ext t n M M' → Q (mixD mix) M'
/-- _law_mix: _law_tape_here, _law_table_here, _law_rows, _law_shares, _law_row, _law_speed, _law_share -/
def c_law_mix (i_law_draw i_law_part i_law_over i_law_sum : Nat) : List Sx := [.set 2 (.lc [4] (.nm 4) .val (.ix (.var 1) (.lit (.int 1))) (.ix (.var 1) (.lit (.int 1))) (.cmp .eq (.call i_law_draw [.var 0, .lit (.int 2)]) (.lit (.int 0))) (.ix (.var 4) (.lit (.int 0)))), .ife (.cmp .eq (.var 2) (.lst [])) [.set 2 (.lst [.ix (.ix (.ix (.var 1) (.lit (.int 1))) (.lit (.int 0))) (.lit (.int 0))])] [], .set 3 (.lc [4] (.nm 4) .val (.var 2) (.var 2) (.lit (.bl true)) (.call i_law_part [.var 0])), .ret (.blt .tup [.lc [5, 6] (.tp [5, 6]) .zip (.var 2) (.var 3) (.lit (.bl true)) (.tup [.var 5, .call i_law_over [.var 6, .call i_law_sum [.var 3]]])])]
theorem sel_loop {t : Tp} {n : Nat} {M0 : MH} {QQ : List D → MH → Prop} {d1 : D} {x2 x3 x4 x5 x6 : Option D} : ∀ (rs : Rows2) (acc : List D) (M : MH), Ext t (n + rs.length) M0 M →
    (∀ (ss : Rows2) M', (∀ s ∈ ss, s ∈ rs) → ss.length ≤ rs.length → Ext t n M0 M' → QQ (acc ++ ss.map fun r => rD r.1) M') →
    goLc (tgN 4) (fun _ => True) (wBin oEq (wCallF spDraw noR (wCons (wVar 0) (wCons (wLit (.int 2)) wNil))) (wLit (.int 0))) (wBin oIxD (wVar 4) (wLit (.int 0))) [some (.ref t.a), some d1, x2, x3, x4, x5, x6] QQ (rs.map rowD) acc M
  | [], acc, M, ex, h => ⟨trivial, by have := h [] M (fun _ z => z) (Nat.le_refl _) (ex.le (by simp)); simpa using this⟩
  | r :: rs, acc, M, ex, h => by
    refine ⟨trivial, ?_⟩
    simp only [wpS, wpE, wpEs, wDrop, wRet, wRetN, wSet, wSetT, wPar, wStI, wVar, wLit, wBin, wUn, wCons, wNil, wTup, wLst, wIsN, wCh2, wSl, wpoS, wpoN, wCallF, wCall, wMth, Bo.op, Co.op, Bf.op, Mn.op, oAdd, oSub, oMul, oFdiv, oMod, oPow, oLt, oLe, oGt, oGe, oCmp, isB, isI, uNeg, D.nrm, bAbs, ixD_num, ixD_den, nrm_rD, wNext, wBrk, wCnt, wRetN, setAll, wFor, wpIk, wiV, wiR1, wiR2, Tn.tgt, Tn.is, wAnd, wOr, wNot, wIf, wIfS, List.getElem?_cons_zero, List.getElem?_cons_succ, List.set_cons_zero, List.set_cons_succ, List.map_cons, List.map_nil, List.length_cons, List.length_nil, List.cons_append, List.nil_append, List.append_nil, List.replicate, reduceIte, Bool.false_eq_true, Nat.zero_add, Nat.reduceAdd, Nat.reduceSub, Int.cast_ofNat_Int, Option.isSome_some, Option.isSome_none, reduceCtorEq, tgN]
    refine ⟨t, 2, n + rs.length, rfl, ex.t.le (by simp only [List.length_cons]; omega), by decide, by decide, fun j M1 hj e1 => ?_⟩
    simp only [wpS, wpE, wpEs, wDrop, wRet, wRetN, wSet, wSetT, wPar, wStI, wVar, wLit, wBin, wUn, wCons, wNil, wTup, wLst, wIsN, wCh2, wSl, wpoS, wpoN, wCallF, wCall, wMth, Bo.op, Co.op, Bf.op, Mn.op, oAdd, oSub, oMul, oFdiv, oMod, oPow, oLt, oLe, oGt, oGe, oCmp, isB, isI, uNeg, D.nrm, bAbs, ixD_num, ixD_den, nrm_rD, wNext, wBrk, wCnt, wRetN, setAll, wFor, wpIk, wiV, wiR1, wiR2, Tn.tgt, Tn.is, wAnd, wOr, wNot, wIf, wIfS, List.getElem?_cons_zero, List.getElem?_cons_succ, List.set_cons_zero, List.set_cons_succ, List.map_cons, List.map_nil, List.length_cons, List.length_nil, List.cons_append, List.nil_append, List.append_nil, List.replicate, reduceIte, Bool.false_eq_true, Nat.zero_add, Nat.reduceAdd, Nat.reduceSub, Int.cast_ofNat_Int, Option.isSome_some, Option.isSome_none, reduceCtorEq, eq_int, row0]
    split
    · refine sel_loop rs (acc ++ [rD r.1]) M1 (ex.trans e1) fun ss M' h1 h2 h3 => ?_
      have := h (r :: ss) M' (fun s hs => by
        rcases List.mem_cons.mp hs with rfl | hs
        · exact List.mem_cons_self
        · exact List.mem_cons_of_mem _ (h1 s hs)) (by simp only [List.length_cons]; omega) h3
      rw [List.append_assoc]; exact this
    · refine sel_loop rs acc M1 (ex.trans e1) fun ss M' h1 h2 h3 => ?_
      exact h ss M' (fun s hs => List.mem_cons_of_mem _ (h1 s hs)) (by simp only [List.length_cons]; omega) h3
theorem shr_loop {t : Tp} {n : Nat} {M0 : MH} {QQ : List D → MH → Prop} {d1 : D} {x2 x3 x4 x5 x6 : Option D} {q : Addr} {xs : List D} (qa : q ≠ t.a) (hq : M0 q = some (.lst xs)) : ∀ (rs : List D) (acc : List D) (M : MH), Ext t (n + 5 * rs.length) M0 M →
    (∀ (ss : List Rat) M', (∀ s ∈ ss, Prt s) → ss.length = rs.length → Ext t n M0 M' → QQ (acc ++ ss.map rD) M') →
    goLc (tgN 4) (fun M' => M' q = some (.lst xs)) (wLit (.bl true)) (wCallF spPart noR (wCons (wVar 0) wNil)) [some (.ref t.a), some d1, x2, x3, x4, x5, x6] QQ rs acc M
  | [], acc, M, ex, h => ⟨ex.get qa hq, by have := h [] M (fun _ z => by cases z) rfl (ex.le (by simp)); simpa using this⟩
  | r :: rs, acc, M, ex, h => by
    refine ⟨ex.get qa hq, ?_⟩
    simp only [wpS, wpE, wpEs, wDrop, wRet, wRetN, wSet, wSetT, wPar, wStI, wVar, wLit, wBin, wUn, wCons, wNil, wTup, wLst, wIsN, wCh2, wSl, wpoS, wpoN, wCallF, wCall, wMth, Bo.op, Co.op, Bf.op, Mn.op, oAdd, oSub, oMul, oFdiv, oMod, oPow, oLt, oLe, oGt, oGe, oCmp, isB, isI, uNeg, D.nrm, bAbs, ixD_num, ixD_den, nrm_rD, wNext, wBrk, wCnt, wRetN, setAll, wFor, wpIk, wiV, wiR1, wiR2, Tn.tgt, Tn.is, wAnd, wOr, wNot, wIf, wIfS, List.getElem?_cons_zero, List.getElem?_cons_succ, List.set_cons_zero, List.set_cons_succ, List.map_cons, List.map_nil, List.length_cons, List.length_nil, List.cons_append, List.nil_append, List.append_nil, List.replicate, reduceIte, Bool.false_eq_true, Nat.zero_add, Nat.reduceAdd, Nat.reduceSub, Int.cast_ofNat_Int, Option.isSome_some, Option.isSome_none, reduceCtorEq, tgN]
    refine ⟨t, n + 5 * rs.length, rfl, ex.t.le (by simp only [List.length_cons]; omega), fun s M1 hs e1 => ?_⟩
    refine shr_loop qa hq rs (acc ++ [rD s]) M1 (ex.trans e1) fun ss M' h1 h2 h3 => ?_
    have := h (s :: ss) M' (fun y hy => by
      rcases List.mem_cons.mp hy with rfl | hy
      · exact hs
      · exact h1 y hy) (by simp only [List.length_cons]; omega) h3
    rw [List.append_assoc]; exact this
theorem zip_map : ∀ (xs ys : List Rat), zipD (xs.map rD) (ys.map rD) = (List.zip xs ys).map rowD
  | [], _ => by simp [zipD]
  | _ :: _, [] => by simp [zipD]
  | x :: xs, y :: ys => by
    rw [List.map_cons, List.map_cons, zip_cons, zip_map xs ys]
    rfl
/-- a common bound of the denominators of quotients -/
theorem div_dens {m b : Nat} {r : Rat} (hm : 0 < m) (k : Ft m b r) (pr : 0 < r) : ∃ w : Nat, 0 < w ∧ w ≤ b * m ∧ ∀ q : Rat, q.den ∣ m → (q / r).den ∣ w := by
  obtain ⟨w, w0, e, wb, _⟩ := Ft.div_den (q := 0) hm ⟨m, by simp⟩ k pr
  refine ⟨w, w0, wb, fun q hq => ?_⟩
  obtain ⟨w', _, e', _, h⟩ := Ft.div_den hm hq k pr
  have : w' = w := by
    have z : (w' : Rat) = (w : Rat) := e'.symm.trans e
    have z2 := congrArg Rat.num z
    rw [Rat.num_natCast, Rat.num_natCast] at z2
    omega
  rw [← this]; exact h
theorem fold_ge : ∀ (qs : List Rat) (acc : Rat), (∀ q ∈ qs, 0 ≤ q) → acc ≤ qs.foldl (· + ·) acc
  | [], acc, _ => Rat.le_refl
  | q :: qs, acc, h => by
    have h1 := h q List.mem_cons_self
    have h2 := fold_ge qs (acc + q) fun y hy => h y (List.mem_cons_of_mem _ hy)
    show acc ≤ qs.foldl (· + ·) (acc + q)
    grind
theorem fold_mem : ∀ (qs : List Rat) (acc : Rat), (∀ q ∈ qs, 0 ≤ q) → 0 ≤ acc → ∀ q ∈ qs, q ≤ qs.foldl (· + ·) acc
  | [], acc, _, _, q, hq => by cases hq
  | p :: qs, acc, h, ha, q, hq => by
    have h1 := h p List.mem_cons_self
    rcases List.mem_cons.mp hq with rfl | hq
    · have := fold_ge qs (acc + q) fun y hy => h y (List.mem_cons_of_mem _ hy)
      show q ≤ qs.foldl (· + ·) (acc + q)
      grind
    · exact fold_mem qs (acc + p) (fun y hy => h y (List.mem_cons_of_mem _ hy)) (by grind) q hq
theorem shares_ok {ss : List Rat} (h : ∀ s ∈ ss, Prt s) (l : ss.length ≤ 12) : SumOk ss LL cc := by
  refine ⟨LL_pos, fun q hq => (h q hq).ft, by decide +kernel, ?_⟩
  exact Nat.lt_of_le_of_lt (Nat.mul_le_mul_right _ (Nat.mul_le_mul_right _ l)) (by decide +kernel)
theorem vc_mix {iD iP iO iS : Nat} {s1 s2 s3 s4 s5 s6 s7 : Str} (hD : sp iD = spDraw) (hP : sp iP = spPart) (hO : sp iO = spOver) (hS : sp iS = spSum) : Vc sp (c_law_mix iD iP iO iS) [s1, s2, s3, s4, s5, s6, s7] spMix := by
  rintro ds M Q R ⟨t, n, rows, rfl, tb, ht, k⟩
  unfold c_law_mix startD
  have l1 := tb.l1
  have l2 := tb.l2
  refine vs_cons ?_
  simp only [wpS, wpE, wpEs, wDrop, wRet, wRetN, wSet, wSetT, wPar, wStI, wVar, wLit, wBin, wUn, wCons, wNil, wTup, wLst, wIsN, wCh2, wSl, wpoS, wpoN, wCallF, wCall, wMth, Bo.op, Co.op, Bf.op, Mn.op, oAdd, oSub, oMul, oFdiv, oMod, oPow, oLt, oLe, oGt, oGe, oCmp, isB, isI, uNeg, D.nrm, bAbs, ixD_num, ixD_den, nrm_rD, wNext, wBrk, wCnt, wRetN, setAll, wFor, wpIk, wiV, wiR1, wiR2, Tn.tgt, Tn.is, wAnd, wOr, wNot, wIf, wIfS, List.getElem?_cons_zero, List.getElem?_cons_succ, List.set_cons_zero, List.set_cons_succ, List.map_cons, List.map_nil, List.length_cons, List.length_nil, List.cons_append, List.nil_append, List.append_nil, List.replicate, reduceIte, Bool.false_eq_true, Nat.zero_add, Nat.reduceAdd, Nat.reduceSub, Int.cast_ofNat_Int, Option.isSome_some, Option.isSome_none, reduceCtorEq, wLc, tbl1, itTq, wipeD, hD]
  refine ⟨by rw [List.length_map]; exact Nat.le_trans l2 (by decide), ?_⟩
  refine sel_loop (n := n + 60) rows [] M ⟨ht.le (by omega), fun _ _ _ e => e⟩ fun ss M1 sub sl e1 p hp => ?_
  rw [List.nil_append]
  -- from the speeds on
  have rest : ∀ (ss : Rows2) (M2 : MH) (q : Addr), ss ≠ [] → (∀ s ∈ ss, s ∈ rows) → ss.length ≤ 12 → Ext t (n + 60) M M2 → q ≠ t.a → M2 q = some (.lst (ss.map fun r => rD r.1)) →
      wpSs sp R [.set 3 (.lc [4] (.nm 4) .val (.var 2) (.var 2) (.lit (.bl true)) (.call iP [.var 0])), .ret (.blt .tup [.lc [5, 6] (.tp [5, 6]) .zip (.var 2) (.var 3) (.lit (.bl true)) (.tup [.var 5, .call iO [.var 6, .call iS [.var 3]]])])]
        { nx := fun _ M' => Q .non M', rt := Q } [some (.ref t.a), some (tblD rows), some (.ref q), none, none, none, none] M2 := by
    intro ss M2 q nn sub sl e2 qa hq
    refine vs_cons ?_
    simp only [wpS, wpE, wpEs, wDrop, wRet, wRetN, wSet, wSetT, wPar, wStI, wVar, wLit, wBin, wUn, wCons, wNil, wTup, wLst, wIsN, wCh2, wSl, wpoS, wpoN, wCallF, wCall, wMth, Bo.op, Co.op, Bf.op, Mn.op, oAdd, oSub, oMul, oFdiv, oMod, oPow, oLt, oLe, oGt, oGe, oCmp, isB, isI, uNeg, D.nrm, bAbs, ixD_num, ixD_den, nrm_rD, wNext, wBrk, wCnt, wRetN, setAll, wFor, wpIk, wiV, wiR1, wiR2, Tn.tgt, Tn.is, wAnd, wOr, wNot, wIf, wIfS, List.getElem?_cons_zero, List.getElem?_cons_succ, List.set_cons_zero, List.set_cons_succ, List.map_cons, List.map_nil, List.length_cons, List.length_nil, List.cons_append, List.nil_append, List.append_nil, List.replicate, reduceIte, Bool.false_eq_true, Nat.zero_add, Nat.reduceAdd, Nat.reduceSub, Int.cast_ofNat_Int, Option.isSome_some, Option.isSome_none, reduceCtorEq, wLc, itL hq, wipeD, hP]
    refine ⟨by rw [List.length_map]; exact Nat.le_trans sl (by decide), ?_⟩
    refine shr_loop (n := n) (M0 := M2) qa hq _ [] M2 (Ext.refl (e2.t.le (by rw [List.length_map]; omega))) fun qs M3 hpr ln e3 p3 hp3 => ?_
    rw [List.nil_append]
    rw [List.length_map] at ln
    have g1 := e3.get qa hq
    have qp : q ≠ p3 := by rintro rfl; rw [g1] at hp3; cases hp3
    obtain ⟨M4, e4⟩ : ∃ M4, M4 = updM M3 p3 (.lst (qs.map rD)) := ⟨_, rfl⟩
    have g2 : M4 q = some (.lst ((ss.map (·.1)).map rD)) := by rw [e4, updM_ne qp, g1, List.map_map]; rfl
    have g3 : M4 p3 = some (.lst (qs.map rD)) := by rw [e4]; exact updM_same
    have x4 : Ext t n M M4 := by rw [e4]; exact (e2.trans e3).new hp3
    rw [← e4]
    have so := shares_ok hpr (by omega)
    have nq : qs ≠ [] := by
      rintro rfl
      apply nn
      exact List.length_eq_zero_iff.mp (by rw [← ln]; rfl)
    have pos : ∀ y ∈ qs, 0 ≤ y := fun y hy => Rat.le_of_lt (hpr y hy).1
    have sp0 : 0 < sumR qs := by
      cases qs with
      | nil => exact absurd rfl nq
      | cons y qs =>
        have h1 := (hpr y List.mem_cons_self).1
        have h2 := fold_mem (y :: qs) 0 pos Rat.le_refl y List.mem_cons_self
        unfold sumR
        grind
    refine vs_cons ?_
    simp only [wpS, wpE, wpEs, wDrop, wRet, wRetN, wSet, wSetT, wPar, wStI, wVar, wLit, wBin, wUn, wCons, wNil, wTup, wLst, wIsN, wCh2, wSl, wpoS, wpoN, wCallF, wCall, wMth, Bo.op, Co.op, Bf.op, Mn.op, oAdd, oSub, oMul, oFdiv, oMod, oPow, oLt, oLe, oGt, oGe, oCmp, isB, isI, uNeg, D.nrm, bAbs, ixD_num, ixD_den, nrm_rD, wNext, wBrk, wCnt, wRetN, setAll, wFor, wpIk, wiV, wiR1, wiR2, Tn.tgt, Tn.is, wAnd, wOr, wNot, wIf, wIfS, List.getElem?_cons_zero, List.getElem?_cons_succ, List.set_cons_zero, List.set_cons_succ, List.map_cons, List.map_nil, List.length_cons, List.length_nil, List.cons_append, List.nil_append, List.append_nil, List.replicate, reduceIte, Bool.false_eq_true, Nat.zero_add, Nat.reduceAdd, Nat.reduceSub, Int.cast_ofNat_Int, Option.isSome_some, Option.isSome_none, reduceCtorEq, wLc, wiZ, lisL g2, lisL g3, wipeD, zip_map]
    refine ⟨?_, ?_⟩
    · rw [List.length_map, List.length_zip, List.length_map]
      exact Nat.le_trans (Nat.le_trans (Nat.min_le_left _ _) sl) (by decide)
    refine goLc_map (M := M4) ⟨g2, g3⟩ rowD (fun e => rowD (e.1, e.2 / sumR qs)) _ [] (fun e he => ⟨[some (.ref t.a), some (tblD rows), some (.ref q), some (.ref p3), none, some (rD e.1), some (rD e.2)], rfl, fun K kk => ?_⟩) fun p5 hp5 => ?_
    · simp only [wpS, wpE, wpEs, wDrop, wRet, wRetN, wSet, wSetT, wPar, wStI, wVar, wLit, wBin, wUn, wCons, wNil, wTup, wLst, wIsN, wCh2, wSl, wpoS, wpoN, wCallF, wCall, wMth, Bo.op, Co.op, Bf.op, Mn.op, oAdd, oSub, oMul, oFdiv, oMod, oPow, oLt, oLe, oGt, oGe, oCmp, isB, isI, uNeg, D.nrm, bAbs, ixD_num, ixD_den, nrm_rD, wNext, wBrk, wCnt, wRetN, setAll, wFor, wpIk, wiV, wiR1, wiR2, Tn.tgt, Tn.is, wAnd, wOr, wNot, wIf, wIfS, List.getElem?_cons_zero, List.getElem?_cons_succ, List.set_cons_zero, List.set_cons_succ, List.map_cons, List.map_nil, List.length_cons, List.length_nil, List.cons_append, List.nil_append, List.append_nil, List.replicate, reduceIte, Bool.false_eq_true, Nat.zero_add, Nat.reduceAdd, Nat.reduceSub, Int.cast_ofNat_Int, Option.isSome_some, Option.isSome_none, reduceCtorEq, hO, hS]
      have he2 : e.2 ∈ qs := (List.of_mem_zip he).2
      exact ⟨p3, qs, _, _, rfl, g3, so, _, _, rfl, so.part he2, so.total, sp0, by decide, kk⟩
    · rw [List.nil_append]
      have ee : (List.zip (ss.map (·.1)) qs).map (fun e => rowD (e.1, e.2 / sumR qs)) = ((List.zip (ss.map (·.1)) qs).map fun e => (e.1, e.2 / sumR qs)).map rowD := by rw [List.map_map]; rfl
      rw [ee]
      obtain ⟨w, w0, wb, wd⟩ := div_dens LL_pos so.ftSum sp0
      refine tupT updM_same _ (k _ w _ ⟨?_, w0, ?_, fun e he => ?_⟩ (x4.new hp5))
      · rw [List.length_map, List.length_zip, List.length_map]
        exact Nat.le_trans (Nat.min_le_left _ _) sl
      · refine Nat.le_trans wb ?_
        rw [ln]
        exact Nat.le_trans (Nat.mul_le_mul_right _ (Nat.mul_le_mul_right _ sl)) (by decide +kernel)
      · obtain ⟨z, hz, rfl⟩ := List.mem_map.mp he
        obtain ⟨h1, h2⟩ := List.of_mem_zip hz
        obtain ⟨r, hr, e1⟩ := List.mem_map.mp h1
        refine ⟨⟨r.2, by show (z.1, r.2) ∈ rows; rw [← e1]; exact sub r hr⟩, ?_⟩
        have c1 : ((1 : Nat) : Rat) = 1 := rfl
        have i0 : 0 < (sumR qs)⁻¹ := Rat.inv_pos.mpr sp0
        have nz : sumR qs ≠ 0 := fun y => by rw [y] at sp0; exact absurd sp0 Rat.lt_irrefl
        have t0 : 0 ≤ z.2 / sumR qs := by rw [Rat.div_def]; exact Rat.mul_nonneg (pos _ h2) (Rat.le_of_lt i0)
        have t1 : z.2 / sumR qs ≤ 1 := by
          refine Rat.le_of_mul_le_mul_right (c := sumR qs) ?_ sp0
          rw [Rat.div_mul_cancel nz, Rat.one_mul]
          exact fold_mem qs 0 pos Rat.le_refl _ h2
        exact ⟨wd _ (hpr _ h2).ft.d, by rw [c1]; grind, by rw [c1]; exact t1⟩
  have pa := e1.t.ne hp
  have x1 : Ext t (n + 60) M (updM M1 p (.lst (ss.map fun r => rD r.1))) := e1.new hp
  have gp : (updM M1 p (.lst (ss.map fun r => rD r.1))) p = some (.lst (ss.map fun r => rD r.1)) := updM_same
  generalize updM M1 p (.lst (ss.map fun r => rD r.1)) = M2 at x1 gp
  refine vs_cons ?_
  simp only [wpS, wpE, wpEs, wDrop, wRet, wRetN, wSet, wSetT, wPar, wStI, wVar, wLit, wBin, wUn, wCons, wNil, wTup, wLst, wIsN, wCh2, wSl, wpoS, wpoN, wCallF, wCall, wMth, Bo.op, Co.op, Bf.op, Mn.op, oAdd, oSub, oMul, oFdiv, oMod, oPow, oLt, oLe, oGt, oGe, oCmp, isB, isI, uNeg, D.nrm, bAbs, ixD_num, ixD_den, nrm_rD, wNext, wBrk, wCnt, wRetN, setAll, wFor, wpIk, wiV, wiR1, wiR2, Tn.tgt, Tn.is, wAnd, wOr, wNot, wIf, wIfS, List.getElem?_cons_zero, List.getElem?_cons_succ, List.set_cons_zero, List.set_cons_succ, List.map_cons, List.map_nil, List.length_cons, List.length_nil, List.cons_append, List.nil_append, List.append_nil, List.replicate, reduceIte, Bool.false_eq_true, Nat.zero_add, Nat.reduceAdd, Nat.reduceSub, Int.cast_ofNat_Int, Option.isSome_some, Option.isSome_none, reduceCtorEq]
  refine ⟨by decide, fun p2 hp2 => ?_⟩
  have pp : p ≠ p2 := by rintro rfl; rw [gp] at hp2; cases hp2
  have x2 : Ext t (n + 60) M (updM M2 p2 (.lst [])) := x1.new hp2
  have g1 : (updM M2 p2 (.lst [])) p = some (.lst ((ss.map (·.1)).map rD)) := by rw [updM_ne pp, gp, List.map_map]; rfl
  have g2 : (updM M2 p2 (.lst [])) p2 = some (.lst []) := updM_same
  generalize updM M2 p2 (.lst []) = M3 at x2 g1 g2
  simp only [wpS, wpE, wpEs, wDrop, wRet, wRetN, wSet, wSetT, wPar, wStI, wVar, wLit, wBin, wUn, wCons, wNil, wTup, wLst, wIsN, wCh2, wSl, wpoS, wpoN, wCallF, wCall, wMth, Bo.op, Co.op, Bf.op, Mn.op, oAdd, oSub, oMul, oFdiv, oMod, oPow, oLt, oLe, oGt, oGe, oCmp, isB, isI, uNeg, D.nrm, bAbs, ixD_num, ixD_den, nrm_rD, wNext, wBrk, wCnt, wRetN, setAll, wFor, wpIk, wiV, wiR1, wiR2, Tn.tgt, Tn.is, wAnd, wOr, wNot, wIf, wIfS, List.getElem?_cons_zero, List.getElem?_cons_succ, List.set_cons_zero, List.set_cons_succ, List.map_cons, List.map_nil, List.length_cons, List.length_nil, List.cons_append, List.nil_append, List.append_nil, List.replicate, reduceIte, Bool.false_eq_true, Nat.zero_add, Nat.reduceAdd, Nat.reduceSub, Int.cast_ofNat_Int, Option.isSome_some, Option.isSome_none, reduceCtorEq, eq_nil g1 g2]
  by_cases hs : ss = []
  · subst hs
    simp only [wpS, wpE, wpEs, wDrop, wRet, wRetN, wSet, wSetT, wPar, wStI, wVar, wLit, wBin, wUn, wCons, wNil, wTup, wLst, wIsN, wCh2, wSl, wpoS, wpoN, wCallF, wCall, wMth, Bo.op, Co.op, Bf.op, Mn.op, oAdd, oSub, oMul, oFdiv, oMod, oPow, oLt, oLe, oGt, oGe, oCmp, isB, isI, uNeg, D.nrm, bAbs, ixD_num, ixD_den, nrm_rD, wNext, wBrk, wCnt, wRetN, setAll, wFor, wpIk, wiV, wiR1, wiR2, Tn.tgt, Tn.is, wAnd, wOr, wNot, wIf, wIfS, List.getElem?_cons_zero, List.getElem?_cons_succ, List.set_cons_zero, List.set_cons_succ, List.map_cons, List.map_nil, List.length_cons, List.length_nil, List.cons_append, List.nil_append, List.append_nil, List.replicate, reduceIte, Bool.false_eq_true, Nat.zero_add, Nat.reduceAdd, Nat.reduceSub, Int.cast_ofNat_Int, Option.isSome_some, Option.isSome_none, reduceCtorEq, List.map_nil, decide_true]
    refine vs_cons ?_
    obtain ⟨r, hr, er⟩ := row_at (rows := rows) (j := 0) (by omega)
    simp only [wpS, wpE, wpEs, wDrop, wRet, wRetN, wSet, wSetT, wPar, wStI, wVar, wLit, wBin, wUn, wCons, wNil, wTup, wLst, wIsN, wCh2, wSl, wpoS, wpoN, wCallF, wCall, wMth, Bo.op, Co.op, Bf.op, Mn.op, oAdd, oSub, oMul, oFdiv, oMod, oPow, oLt, oLe, oGt, oGe, oCmp, isB, isI, uNeg, D.nrm, bAbs, ixD_num, ixD_den, nrm_rD, wNext, wBrk, wCnt, wRetN, setAll, wFor, wpIk, wiV, wiR1, wiR2, Tn.tgt, Tn.is, wAnd, wOr, wNot, wIf, wIfS, List.getElem?_cons_zero, List.getElem?_cons_succ, List.set_cons_zero, List.set_cons_succ, List.map_cons, List.map_nil, List.length_cons, List.length_nil, List.cons_append, List.nil_append, List.append_nil, List.replicate, reduceIte, Bool.false_eq_true, Nat.zero_add, Nat.reduceAdd, Nat.reduceSub, Int.cast_ofNat_Int, Option.isSome_some, Option.isSome_none, reduceCtorEq, tbl1, ixTq]
    rw [show (0 : Int) = ((0 : Nat) : Int) from rfl, atN er]
    simp only [wpS, wpE, wpEs, wDrop, wRet, wRetN, wSet, wSetT, wPar, wStI, wVar, wLit, wBin, wUn, wCons, wNil, wTup, wLst, wIsN, wCh2, wSl, wpoS, wpoN, wCallF, wCall, wMth, Bo.op, Co.op, Bf.op, Mn.op, oAdd, oSub, oMul, oFdiv, oMod, oPow, oLt, oLe, oGt, oGe, oCmp, isB, isI, uNeg, D.nrm, bAbs, ixD_num, ixD_den, nrm_rD, wNext, wBrk, wCnt, wRetN, setAll, wFor, wpIk, wiV, wiR1, wiR2, Tn.tgt, Tn.is, wAnd, wOr, wNot, wIf, wIfS, List.getElem?_cons_zero, List.getElem?_cons_succ, List.set_cons_zero, List.set_cons_succ, List.map_cons, List.map_nil, List.length_cons, List.length_nil, List.cons_append, List.nil_append, List.append_nil, List.replicate, reduceIte, Bool.false_eq_true, Nat.zero_add, Nat.reduceAdd, Nat.reduceSub, Int.cast_ofNat_Int, Option.isSome_some, Option.isSome_none, reduceCtorEq, row0]
    refine ⟨by decide, fun p4 hp4 => ?_⟩
    exact rest [r] _ p4 (by simp) (fun s hs => by rw [List.mem_singleton.mp hs]; exact hr) (by simp) (x2.new hp4) (x2.t.ne hp4) updM_same
  · have : ¬ ss.map (·.1) = [] := fun z => hs (List.map_eq_nil_iff.mp z)
    simp only [wpS, wpE, wpEs, wDrop, wRet, wRetN, wSet, wSetT, wPar, wStI, wVar, wLit, wBin, wUn, wCons, wNil, wTup, wLst, wIsN, wCh2, wSl, wpoS, wpoN, wCallF, wCall, wMth, Bo.op, Co.op, Bf.op, Mn.op, oAdd, oSub, oMul, oFdiv, oMod, oPow, oLt, oLe, oGt, oGe, oCmp, isB, isI, uNeg, D.nrm, bAbs, ixD_num, ixD_den, nrm_rD, wNext, wBrk, wCnt, wRetN, setAll, wFor, wpIk, wiV, wiR1, wiR2, Tn.tgt, Tn.is, wAnd, wOr, wNot, wIf, wIfS, List.getElem?_cons_zero, List.getElem?_cons_succ, List.set_cons_zero, List.set_cons_succ, List.map_cons, List.map_nil, List.length_cons, List.length_nil, List.cons_append, List.nil_append, List.append_nil, List.replicate, reduceIte, Bool.false_eq_true, Nat.zero_add, Nat.reduceAdd, Nat.reduceSub, Int.cast_ofNat_Int, Option.isSome_some, Option.isSome_none, reduceCtorEq, decide_eq_false this]
    simp only [nil_eq]
    exact rest ss M3 p hs sub (by omega) x2 pa (by rw [g1, List.map_map]; rfl)
end
end Pz


set_option Elab.async false
set_option linter.all false
set_option autoImplicit false
set_option maxRecDepth 100000
set_option maxHeartbeats 4000000
/-! Mixtures: the law. -/
namespace Pz
open PySem PySem.Spec L2
open PyProof.Rows hiding St

def pRow (e : Rat × Rat) : PyData := .tuple [pR e.1, pR e.2]
def pM (mix : Rows2) : PyData := .tuple (mix.map pRow)
theorem py_mix (M : MH) (mix : Rows2) : pyD M pyN (mixD mix) = some (pM mix) := by
  show (mapO (pyD M 11) (mix.map rowD)).map PyData.tuple = _
  rw [mapO_map (f := pyD M 11) (g := rowD) (h := pRow) (fun e => rfl) mix]
  rfl
theorem sh_row {e : Rat × Rat} (h1 : Ok e.1) (h2 : Ok e.2) : Sh 2425 (pRow e) ∧ (pRow e).depth ≤ 2 := by
  have a := Sh.rat h1
  have b := Sh.rat h2
  exact Sh.tuple (B := 1209) (k := 1) (xs := [pR e.1, pR e.2]) (fun x hx => by
    rcases List.mem_cons.mp hx with rfl | hx
    · exact ⟨a.1, Nat.le_of_eq a.2⟩
    · rw [List.mem_singleton.mp hx]; exact ⟨b.1, Nat.le_of_eq b.2⟩) (by decide)
theorem repr_mix {rows mix : Rows2} {w : Nat} (tb : TbOk rows) (mk : MixOk rows mix w) {M : MH} {Q : Pt} (k : Q (.str (pM mix).shown) M) : bRepr [mixD mix] M Q := by
  have s := Sh.tuple (B := 2425) (k := 2) (xs := mix.map pRow) (fun x hx => by
    obtain ⟨e, he, rfl⟩ := List.mem_map.mp hx
    obtain ⟨⟨p, hp⟩, _⟩ := mk.e e he
    exact sh_row (okS (tb.s (e.1, p) hp)) (mk.ok he)) (by decide)
  refine repr_of (py_mix M mix) s.1 ?_ (fun _ => nofun) (fun _ => nofun) Q k
  rw [List.length_map]
  exact Nat.le_trans (Nat.add_le_add_right (Nat.mul_le_mul_right _ mk.len) _) (by decide)
section
variable {sp : Nat → Spec} {M : MH} {Q : Pt} {R : XPt} {ds : List D}
/-- law: _law_script, _law_tape_here, _law_k, _law_table_here, _law_powers, _law_j, _law_speed, _law_found, _law_mix_here, _law_due_here, _law_one, _law_part_here -/
def c_law (i_law_tape i_law_table i_law_inside i_mixture i_law_due i_mixed_power i_law_power i_law_mix i_law_sum i_law_times : Nat) : List Sx := [.set 1 (.call i_law_tape [.var 0]), .for_ (.nm 2) .r1 (.lit (.int 4)) (.lit (.int 4)) [.set 3 (.call i_law_table [.var 1]), .set 4 (.blt .dict [.ix (.var 3) (.lit (.int 1))]), .for_ (.nm 5) .r1 (.lit (.int 4)) (.lit (.int 4)) [.set 6 (.call i_law_inside [.var 1, .var 3]), .set 7 (.call i_mixture [.var 3, .var 6]), .ife (.cmp .ne (.blt .repr [.var 7]) (.blt .repr [.call i_law_due [.var 3, .var 6]])) [.ret (.lit (.bl false))] [], .ife (.cmp .ne (.blt .repr [.call i_mixed_power [.var 3, .var 7]]) (.blt .repr [.call i_law_power [.var 3, .var 6]])) [.ret (.lit (.bl false))] [], .set 8 (.call i_law_mix [.var 1, .var 3]), .set 9 (.call i_law_sum [.lc [10, 11] (.tp [10, 11]) .val (.var 8) (.var 8) (.lit (.bl true)) (.call i_law_times [.ix (.var 4) (.var 10), .var 11])]), .ife (.cmp .ne (.blt .repr [.call i_mixed_power [.var 3, .var 8]]) (.blt .repr [.var 9])) [.ret (.lit (.bl false))] []]], .ret (.lit (.bl true))]
theorem in_loop {iT iB iI iX iU iP iW iY iS iM : Nat} (hI : sp iI = spInside) (hX : sp iX = spMixture) (hU : sp iU = spDue) (hP : sp iP = spMixed) (hW : sp iW = spPower) (hY : sp iY = spMix) (hS : sp iS = spSum) (hM : sp iM = spTimes)
    {t : Tp} {p : Addr} (pa : p ≠ t.a) {rows : Rows2} (tb : TbOk rows) {d0 : D} {M0 : MH} (gp : M0 p = some (.dic (kvR rows))) {n : Nat} {E : ME} : ∀ (ds : List D) (M : MH) (x2 x5 x6 x7 x8 x9 x10 x11 : Option D), Ext t (n + 75 * ds.length) M0 M →
    (∀ M' x2 x5 x6 x7 x8 x9 x10 x11, Ext t n M0 M' → E.nx [some d0, some (.ref t.a), x2, some (tblD rows), some (.ref p), x5, x6, x7, x8, x9, x10, x11] M') →
    goFor (tgN 5) (fun _ => True) (wpSs sp R ((fun (i_law_inside i_mixture i_law_due i_mixed_power i_law_power i_law_mix i_law_sum i_law_times : Nat) => ([.set 6 (.call i_law_inside [.var 1, .var 3]), .set 7 (.call i_mixture [.var 3, .var 6]), .ife (.cmp .ne (.blt .repr [.var 7]) (.blt .repr [.call i_law_due [.var 3, .var 6]])) [.ret (.lit (.bl false))] [], .ife (.cmp .ne (.blt .repr [.call i_mixed_power [.var 3, .var 7]]) (.blt .repr [.call i_law_power [.var 3, .var 6]])) [.ret (.lit (.bl false))] [], .set 8 (.call i_law_mix [.var 1, .var 3]), .set 9 (.call i_law_sum [.lc [10, 11] (.tp [10, 11]) .val (.var 8) (.var 8) (.lit (.bl true)) (.call i_law_times [.ix (.var 4) (.var 10), .var 11])]), .ife (.cmp .ne (.blt .repr [.call i_mixed_power [.var 3, .var 8]]) (.blt .repr [.var 9])) [.ret (.lit (.bl false))] []] : List Sx)) iI iX iU iP iW iY iS iM)) E ds
      [some d0, some (.ref t.a), x2, some (tblD rows), some (.ref p), x5, x6, x7, x8, x9, x10, x11] M
  | [], M, x2, x5, x6, x7, x8, x9, x10, x11, ex, h => ⟨trivial, h _ _ _ _ _ _ _ _ _ (ex.le (by simp))⟩
  | d :: ds, M, x2, x5, x6, x7, x8, x9, x10, x11, ex, h => by
    refine ⟨trivial, ?_⟩
    simp only [tgN, List.set_cons_succ, List.set_cons_zero]
    refine vs_cons ?_
    simp only [wpS, wpE, wpEs, wDrop, wRet, wRetN, wSet, wSetT, wPar, wStI, wVar, wLit, wBin, wUn, wCons, wNil, wTup, wLst, wIsN, wCh2, wSl, wpoS, wpoN, wCallF, wCall, wMth, Bo.op, Co.op, Bf.op, Mn.op, oAdd, oSub, oMul, oFdiv, oMod, oPow, oLt, oLe, oGt, oGe, oCmp, isB, isI, uNeg, D.nrm, bAbs, ixD_num, ixD_den, nrm_rD, wNext, wBrk, wCnt, wRetN, setAll, wFor, wpIk, wiV, wiR1, wiR2, Tn.tgt, Tn.is, wAnd, wOr, wNot, wIf, wIfS, List.getElem?_cons_zero, List.getElem?_cons_succ, List.set_cons_zero, List.set_cons_succ, List.map_cons, List.map_nil, List.length_cons, List.length_nil, List.cons_append, List.nil_append, List.append_nil, List.replicate, reduceIte, Bool.false_eq_true, Nat.zero_add, Nat.reduceAdd, Nat.reduceSub, Int.cast_ofNat_Int, Option.isSome_some, Option.isSome_none, reduceCtorEq, hI]
    refine ⟨t, n + 75 * ds.length + 72, rows, rfl, tb, ex.t.le (by simp only [List.length_cons]; omega), fun x M1 ib e1 => ?_⟩
    have x1 := ex.trans e1
    refine vs_cons ?_
    simp only [wpS, wpE, wpEs, wDrop, wRet, wRetN, wSet, wSetT, wPar, wStI, wVar, wLit, wBin, wUn, wCons, wNil, wTup, wLst, wIsN, wCh2, wSl, wpoS, wpoN, wCallF, wCall, wMth, Bo.op, Co.op, Bf.op, Mn.op, oAdd, oSub, oMul, oFdiv, oMod, oPow, oLt, oLe, oGt, oGe, oCmp, isB, isI, uNeg, D.nrm, bAbs, ixD_num, ixD_den, nrm_rD, wNext, wBrk, wCnt, wRetN, setAll, wFor, wpIk, wiV, wiR1, wiR2, Tn.tgt, Tn.is, wAnd, wOr, wNot, wIf, wIfS, List.getElem?_cons_zero, List.getElem?_cons_succ, List.set_cons_zero, List.set_cons_succ, List.map_cons, List.map_nil, List.length_cons, List.length_nil, List.cons_append, List.nil_append, List.append_nil, List.replicate, reduceIte, Bool.false_eq_true, Nat.zero_add, Nat.reduceAdd, Nat.reduceSub, Int.cast_ofNat_Int, Option.isSome_some, Option.isSome_none, reduceCtorEq, hX]
    refine ⟨rows, x, rfl, tb, ib, fun M2 k2 => ?_⟩
    have x2 := x1.keep k2
    obtain ⟨w, mo⟩ := due_ok tb ib.ft rows (fun _ z => z) tb.inc
    refine vs_cons ?_
    simp only [wpS, wpE, wpEs, wDrop, wRet, wRetN, wSet, wSetT, wPar, wStI, wVar, wLit, wBin, wUn, wCons, wNil, wTup, wLst, wIsN, wCh2, wSl, wpoS, wpoN, wCallF, wCall, wMth, Bo.op, Co.op, Bf.op, Mn.op, oAdd, oSub, oMul, oFdiv, oMod, oPow, oLt, oLe, oGt, oGe, oCmp, isB, isI, uNeg, D.nrm, bAbs, ixD_num, ixD_den, nrm_rD, wNext, wBrk, wCnt, wRetN, setAll, wFor, wpIk, wiV, wiR1, wiR2, Tn.tgt, Tn.is, wAnd, wOr, wNot, wIf, wIfS, List.getElem?_cons_zero, List.getElem?_cons_succ, List.set_cons_zero, List.set_cons_succ, List.map_cons, List.map_nil, List.length_cons, List.length_nil, List.cons_append, List.nil_append, List.append_nil, List.replicate, reduceIte, Bool.false_eq_true, Nat.zero_add, Nat.reduceAdd, Nat.reduceSub, Int.cast_ofNat_Int, Option.isSome_some, Option.isSome_none, reduceCtorEq, hU]
    refine repr_mix tb mo ⟨rows, x, rfl, tb, ib, repr_mix tb mo ?_⟩
    simp only [wpS, wpE, wpEs, wDrop, wRet, wRetN, wSet, wSetT, wPar, wStI, wVar, wLit, wBin, wUn, wCons, wNil, wTup, wLst, wIsN, wCh2, wSl, wpoS, wpoN, wCallF, wCall, wMth, Bo.op, Co.op, Bf.op, Mn.op, oAdd, oSub, oMul, oFdiv, oMod, oPow, oLt, oLe, oGt, oGe, oCmp, isB, isI, uNeg, D.nrm, bAbs, ixD_num, ixD_den, nrm_rD, wNext, wBrk, wCnt, wRetN, setAll, wFor, wpIk, wiV, wiR1, wiR2, Tn.tgt, Tn.is, wAnd, wOr, wNot, wIf, wIfS, List.getElem?_cons_zero, List.getElem?_cons_succ, List.set_cons_zero, List.set_cons_succ, List.map_cons, List.map_nil, List.length_cons, List.length_nil, List.cons_append, List.nil_append, List.append_nil, List.replicate, reduceIte, Bool.false_eq_true, Nat.zero_add, Nat.reduceAdd, Nat.reduceSub, Int.cast_ofNat_Int, Option.isSome_some, Option.isSome_none, reduceCtorEq, ne_str, decide_true, Bool.not_true]
    simp only [nil_eq]
    refine vs_cons ?_
    simp only [wpS, wpE, wpEs, wDrop, wRet, wRetN, wSet, wSetT, wPar, wStI, wVar, wLit, wBin, wUn, wCons, wNil, wTup, wLst, wIsN, wCh2, wSl, wpoS, wpoN, wCallF, wCall, wMth, Bo.op, Co.op, Bf.op, Mn.op, oAdd, oSub, oMul, oFdiv, oMod, oPow, oLt, oLe, oGt, oGe, oCmp, isB, isI, uNeg, D.nrm, bAbs, ixD_num, ixD_den, nrm_rD, wNext, wBrk, wCnt, wRetN, setAll, wFor, wpIk, wiV, wiR1, wiR2, Tn.tgt, Tn.is, wAnd, wOr, wNot, wIf, wIfS, List.getElem?_cons_zero, List.getElem?_cons_succ, List.set_cons_zero, List.set_cons_succ, List.map_cons, List.map_nil, List.length_cons, List.length_nil, List.cons_append, List.nil_append, List.append_nil, List.replicate, reduceIte, Bool.false_eq_true, Nat.zero_add, Nat.reduceAdd, Nat.reduceSub, Int.cast_ofNat_Int, Option.isSome_some, Option.isSome_none, reduceCtorEq, hP, hW]
    refine ⟨rows, _, w, rfl, tb, mo, fun M3 k3 => ?_⟩
    have x3 := x2.keep k3
    have mt := (mo.sum tb).total
    refine repr_rat mt ⟨rows, x, rfl, tb, ib, ?_⟩
    rw [← mix_due tb ib]
    refine repr_rat mt ?_
    simp only [wpS, wpE, wpEs, wDrop, wRet, wRetN, wSet, wSetT, wPar, wStI, wVar, wLit, wBin, wUn, wCons, wNil, wTup, wLst, wIsN, wCh2, wSl, wpoS, wpoN, wCallF, wCall, wMth, Bo.op, Co.op, Bf.op, Mn.op, oAdd, oSub, oMul, oFdiv, oMod, oPow, oLt, oLe, oGt, oGe, oCmp, isB, isI, uNeg, D.nrm, bAbs, ixD_num, ixD_den, nrm_rD, wNext, wBrk, wCnt, wRetN, setAll, wFor, wpIk, wiV, wiR1, wiR2, Tn.tgt, Tn.is, wAnd, wOr, wNot, wIf, wIfS, List.getElem?_cons_zero, List.getElem?_cons_succ, List.set_cons_zero, List.set_cons_succ, List.map_cons, List.map_nil, List.length_cons, List.length_nil, List.cons_append, List.nil_append, List.append_nil, List.replicate, reduceIte, Bool.false_eq_true, Nat.zero_add, Nat.reduceAdd, Nat.reduceSub, Int.cast_ofNat_Int, Option.isSome_some, Option.isSome_none, reduceCtorEq, ne_str, decide_true, Bool.not_true]
    simp only [nil_eq]
    refine vs_cons ?_
    simp only [wpS, wpE, wpEs, wDrop, wRet, wRetN, wSet, wSetT, wPar, wStI, wVar, wLit, wBin, wUn, wCons, wNil, wTup, wLst, wIsN, wCh2, wSl, wpoS, wpoN, wCallF, wCall, wMth, Bo.op, Co.op, Bf.op, Mn.op, oAdd, oSub, oMul, oFdiv, oMod, oPow, oLt, oLe, oGt, oGe, oCmp, isB, isI, uNeg, D.nrm, bAbs, ixD_num, ixD_den, nrm_rD, wNext, wBrk, wCnt, wRetN, setAll, wFor, wpIk, wiV, wiR1, wiR2, Tn.tgt, Tn.is, wAnd, wOr, wNot, wIf, wIfS, List.getElem?_cons_zero, List.getElem?_cons_succ, List.set_cons_zero, List.set_cons_succ, List.map_cons, List.map_nil, List.length_cons, List.length_nil, List.cons_append, List.nil_append, List.append_nil, List.replicate, reduceIte, Bool.false_eq_true, Nat.zero_add, Nat.reduceAdd, Nat.reduceSub, Int.cast_ofNat_Int, Option.isSome_some, Option.isSome_none, reduceCtorEq, hY]
    refine ⟨t, n + 75 * ds.length, rows, rfl, tb, x3.t, fun mix w2 M4 mo2 e4 => ?_⟩
    have x4 := x3.trans e4
    have g4 := x4.get pa gp
    refine vs_cons ?_
    simp only [wpS, wpE, wpEs, wDrop, wRet, wRetN, wSet, wSetT, wPar, wStI, wVar, wLit, wBin, wUn, wCons, wNil, wTup, wLst, wIsN, wCh2, wSl, wpoS, wpoN, wCallF, wCall, wMth, Bo.op, Co.op, Bf.op, Mn.op, oAdd, oSub, oMul, oFdiv, oMod, oPow, oLt, oLe, oGt, oGe, oCmp, isB, isI, uNeg, D.nrm, bAbs, ixD_num, ixD_den, nrm_rD, wNext, wBrk, wCnt, wRetN, setAll, wFor, wpIk, wiV, wiR1, wiR2, Tn.tgt, Tn.is, wAnd, wOr, wNot, wIf, wIfS, List.getElem?_cons_zero, List.getElem?_cons_succ, List.set_cons_zero, List.set_cons_succ, List.map_cons, List.map_nil, List.length_cons, List.length_nil, List.cons_append, List.nil_append, List.append_nil, List.replicate, reduceIte, Bool.false_eq_true, Nat.zero_add, Nat.reduceAdd, Nat.reduceSub, Int.cast_ofNat_Int, Option.isSome_some, Option.isSome_none, reduceCtorEq, hS, hM, wLc, wipeD]
    show itV (mixD mix) _ _
    unfold mixD
    rw [itTp]
    refine ⟨by rw [List.length_map]; exact Nat.le_trans mo2.len (by decide), ?_⟩
    refine goLc_map trivial rowD (fun e => rD (pw rows e.1 * e.2)) mix [] (fun e he => ⟨_, rfl, fun K kk => ?_⟩) fun q hq => ?_
    · simp only [wpS, wpE, wpEs, wDrop, wRet, wRetN, wSet, wSetT, wPar, wStI, wVar, wLit, wBin, wUn, wCons, wNil, wTup, wLst, wIsN, wCh2, wSl, wpoS, wpoN, wCallF, wCall, wMth, Bo.op, Co.op, Bf.op, Mn.op, oAdd, oSub, oMul, oFdiv, oMod, oPow, oLt, oLe, oGt, oGe, oCmp, isB, isI, uNeg, D.nrm, bAbs, ixD_num, ixD_den, nrm_rD, wNext, wBrk, wCnt, wRetN, setAll, wFor, wpIk, wiV, wiR1, wiR2, Tn.tgt, Tn.is, wAnd, wOr, wNot, wIf, wIfS, List.getElem?_cons_zero, List.getElem?_cons_succ, List.set_cons_zero, List.set_cons_succ, List.map_cons, List.map_nil, List.length_cons, List.length_nil, List.cons_append, List.nil_append, List.append_nil, List.replicate, reduceIte, Bool.false_eq_true, Nat.zero_add, Nat.reduceAdd, Nat.reduceSub, Int.cast_ofNat_Int, Option.isSome_some, Option.isSome_none, reduceCtorEq, hM]
      exact terms hM tb mo2 g4 he kk rfl
    have ee : [] ++ mix.map (fun e => rD (pw rows e.1 * e.2)) = (mix.map fun e => pw rows e.1 * e.2).map rD := by rw [List.nil_append, List.map_map]; rfl
    rw [ee]
    have s2 := mo2.sum tb
    refine ⟨q, _, _, _, rfl, updM_same, s2, ?_⟩
    have x5 : Ext t (n + 75 * ds.length) M0 (updM M4 q (.lst ((mix.map fun e => pw rows e.1 * e.2).map rD))) := x4.new hq
    generalize updM M4 q (.lst ((mix.map fun e => pw rows e.1 * e.2).map rD)) = M5 at x5
    refine vs_cons ?_
    simp only [wpS, wpE, wpEs, wDrop, wRet, wRetN, wSet, wSetT, wPar, wStI, wVar, wLit, wBin, wUn, wCons, wNil, wTup, wLst, wIsN, wCh2, wSl, wpoS, wpoN, wCallF, wCall, wMth, Bo.op, Co.op, Bf.op, Mn.op, oAdd, oSub, oMul, oFdiv, oMod, oPow, oLt, oLe, oGt, oGe, oCmp, isB, isI, uNeg, D.nrm, bAbs, ixD_num, ixD_den, nrm_rD, wNext, wBrk, wCnt, wRetN, setAll, wFor, wpIk, wiV, wiR1, wiR2, Tn.tgt, Tn.is, wAnd, wOr, wNot, wIf, wIfS, List.getElem?_cons_zero, List.getElem?_cons_succ, List.set_cons_zero, List.set_cons_succ, List.map_cons, List.map_nil, List.length_cons, List.length_nil, List.cons_append, List.nil_append, List.append_nil, List.replicate, reduceIte, Bool.false_eq_true, Nat.zero_add, Nat.reduceAdd, Nat.reduceSub, Int.cast_ofNat_Int, Option.isSome_some, Option.isSome_none, reduceCtorEq, hP]
    refine ⟨rows, mix, w2, rfl, tb, mo2, fun M6 k6 => ?_⟩
    refine repr_rat s2.total (repr_rat s2.total ?_)
    show oNe _ _ _ _
    simp only [wpS, wpE, wpEs, wDrop, wRet, wRetN, wSet, wSetT, wPar, wStI, wVar, wLit, wBin, wUn, wCons, wNil, wTup, wLst, wIsN, wCh2, wSl, wpoS, wpoN, wCallF, wCall, wMth, Bo.op, Co.op, Bf.op, Mn.op, oAdd, oSub, oMul, oFdiv, oMod, oPow, oLt, oLe, oGt, oGe, oCmp, isB, isI, uNeg, D.nrm, bAbs, ixD_num, ixD_den, nrm_rD, wNext, wBrk, wCnt, wRetN, setAll, wFor, wpIk, wiV, wiR1, wiR2, Tn.tgt, Tn.is, wAnd, wOr, wNot, wIf, wIfS, List.getElem?_cons_zero, List.getElem?_cons_succ, List.set_cons_zero, List.set_cons_succ, List.map_cons, List.map_nil, List.length_cons, List.length_nil, List.cons_append, List.nil_append, List.append_nil, List.replicate, reduceIte, Bool.false_eq_true, Nat.zero_add, Nat.reduceAdd, Nat.reduceSub, Int.cast_ofNat_Int, Option.isSome_some, Option.isSome_none, reduceCtorEq, ne_str, mixP, decide_true, Bool.not_true]
    simp only [nil_eq]
    exact in_loop (iT := iT) (iB := iB) hI hX hU hP hW hY hS hM pa tb gp ds M6 _ _ _ _ _ _ _ _ (x5.keep k6) h
theorem out_loop {iT iB iI iX iU iP iW iY iS iM : Nat} (hB : sp iB = spTable) (hI : sp iI = spInside) (hX : sp iX = spMixture) (hU : sp iU = spDue) (hP : sp iP = spMixed) (hW : sp iW = spPower) (hY : sp iY = spMix) (hS : sp iS = spSum) (hM : sp iM = spTimes)
    {t : Tp} {d0 : D} {n : Nat} {E : ME} : ∀ (ds : List D) (M : MH) (x2 x3 x4 x5 x6 x7 x8 x9 x10 x11 : Option D), Tape M t (n + 440 * ds.length) →
    (∀ M' x2 x3 x4 x5 x6 x7 x8 x9 x10 x11, E.nx [some d0, some (.ref t.a), x2, x3, x4, x5, x6, x7, x8, x9, x10, x11] M') →
    goFor (tgN 2) (fun _ => True) (wpSs sp R ((fun (i_law_table i_law_inside i_mixture i_law_due i_mixed_power i_law_power i_law_mix i_law_sum i_law_times : Nat) => ([.set 3 (.call i_law_table [.var 1]), .set 4 (.blt .dict [.ix (.var 3) (.lit (.int 1))]), .for_ (.nm 5) .r1 (.lit (.int 4)) (.lit (.int 4)) [.set 6 (.call i_law_inside [.var 1, .var 3]), .set 7 (.call i_mixture [.var 3, .var 6]), .ife (.cmp .ne (.blt .repr [.var 7]) (.blt .repr [.call i_law_due [.var 3, .var 6]])) [.ret (.lit (.bl false))] [], .ife (.cmp .ne (.blt .repr [.call i_mixed_power [.var 3, .var 7]]) (.blt .repr [.call i_law_power [.var 3, .var 6]])) [.ret (.lit (.bl false))] [], .set 8 (.call i_law_mix [.var 1, .var 3]), .set 9 (.call i_law_sum [.lc [10, 11] (.tp [10, 11]) .val (.var 8) (.var 8) (.lit (.bl true)) (.call i_law_times [.ix (.var 4) (.var 10), .var 11])]), .ife (.cmp .ne (.blt .repr [.call i_mixed_power [.var 3, .var 8]]) (.blt .repr [.var 9])) [.ret (.lit (.bl false))] []]] : List Sx)) iB iI iX iU iP iW iY iS iM)) E ds
      [some d0, some (.ref t.a), x2, x3, x4, x5, x6, x7, x8, x9, x10, x11] M
  | [], M, x2, x3, x4, x5, x6, x7, x8, x9, x10, x11, ht, h => ⟨trivial, h _ _ _ _ _ _ _ _ _ _ _⟩
  | d :: ds, M, x2, x3, x4, x5, x6, x7, x8, x9, x10, x11, ht, h => by
    refine ⟨trivial, ?_⟩
    simp only [tgN, List.set_cons_succ, List.set_cons_zero]
    refine vs_cons ?_
    simp only [wpS, wpE, wpEs, wDrop, wRet, wRetN, wSet, wSetT, wPar, wStI, wVar, wLit, wBin, wUn, wCons, wNil, wTup, wLst, wIsN, wCh2, wSl, wpoS, wpoN, wCallF, wCall, wMth, Bo.op, Co.op, Bf.op, Mn.op, oAdd, oSub, oMul, oFdiv, oMod, oPow, oLt, oLe, oGt, oGe, oCmp, isB, isI, uNeg, D.nrm, bAbs, ixD_num, ixD_den, nrm_rD, wNext, wBrk, wCnt, wRetN, setAll, wFor, wpIk, wiV, wiR1, wiR2, Tn.tgt, Tn.is, wAnd, wOr, wNot, wIf, wIfS, List.getElem?_cons_zero, List.getElem?_cons_succ, List.set_cons_zero, List.set_cons_succ, List.map_cons, List.map_nil, List.length_cons, List.length_nil, List.cons_append, List.nil_append, List.append_nil, List.replicate, reduceIte, Bool.false_eq_true, Nat.zero_add, Nat.reduceAdd, Nat.reduceSub, Int.cast_ofNat_Int, Option.isSome_some, Option.isSome_none, reduceCtorEq, hB]
    refine ⟨t, n + 440 * ds.length + 300, rfl, ht.le (by simp only [List.length_cons]; omega), fun rows M1 tb e1 => ?_⟩
    refine vs_cons ?_
    simp only [wpS, wpE, wpEs, wDrop, wRet, wRetN, wSet, wSetT, wPar, wStI, wVar, wLit, wBin, wUn, wCons, wNil, wTup, wLst, wIsN, wCh2, wSl, wpoS, wpoN, wCallF, wCall, wMth, Bo.op, Co.op, Bf.op, Mn.op, oAdd, oSub, oMul, oFdiv, oMod, oPow, oLt, oLe, oGt, oGe, oCmp, isB, isI, uNeg, D.nrm, bAbs, ixD_num, ixD_den, nrm_rD, wNext, wBrk, wCnt, wRetN, setAll, wFor, wpIk, wiV, wiR1, wiR2, Tn.tgt, Tn.is, wAnd, wOr, wNot, wIf, wIfS, List.getElem?_cons_zero, List.getElem?_cons_succ, List.set_cons_zero, List.set_cons_succ, List.map_cons, List.map_nil, List.length_cons, List.length_nil, List.cons_append, List.nil_append, List.append_nil, List.replicate, reduceIte, Bool.false_eq_true, Nat.zero_add, Nat.reduceAdd, Nat.reduceSub, Int.cast_ofNat_Int, Option.isSome_some, Option.isSome_none, reduceCtorEq, tbl1]
    refine dict_rows tb.ne (Nat.le_trans tb.l2 (by decide)) fun p hp => ?_
    have gp : (updM M1 p (.dic (kvR rows))) p = some (.dic (kvR rows)) := updM_same
    have x1 : Ext t (n + 440 * ds.length + 300) M (updM M1 p (.dic (kvR rows))) := e1.new hp
    have pa := e1.t.ne hp
    generalize updM M1 p (.dic (kvR rows)) = M2 at gp x1
    refine vs_cons ?_
    simp only [wpS, wpE, wpEs, wDrop, wRet, wRetN, wSet, wSetT, wPar, wStI, wVar, wLit, wBin, wUn, wCons, wNil, wTup, wLst, wIsN, wCh2, wSl, wpoS, wpoN, wCallF, wCall, wMth, Bo.op, Co.op, Bf.op, Mn.op, oAdd, oSub, oMul, oFdiv, oMod, oPow, oLt, oLe, oGt, oGe, oCmp, isB, isI, uNeg, D.nrm, bAbs, ixD_num, ixD_den, nrm_rD, wNext, wBrk, wCnt, wRetN, setAll, wFor, wpIk, wiV, wiR1, wiR2, Tn.tgt, Tn.is, wAnd, wOr, wNot, wIf, wIfS, List.getElem?_cons_zero, List.getElem?_cons_succ, List.set_cons_zero, List.set_cons_succ, List.map_cons, List.map_nil, List.length_cons, List.length_nil, List.cons_append, List.nil_append, List.append_nil, List.replicate, reduceIte, Bool.false_eq_true, Nat.zero_add, Nat.reduceAdd, Nat.reduceSub, Int.cast_ofNat_Int, Option.isSome_some, Option.isSome_none, reduceCtorEq]
    refine ⟨rgOk_small (by decide) (by decide), ?_⟩
    refine in_loop (iT := iT) (iB := iB) (n := n + 440 * ds.length) hI hX hU hP hW hY hS hM pa tb gp (rngD 0 (Int.toNat 4)) M2 _ _ _ _ _ _ _ _ ⟨x1.t, fun _ _ _ e => e⟩ fun M' x2 x5 x6 x7 x8 x9 x10 x11 ex => ?_
    simp only [nil_eq]
    exact out_loop (iT := iT) hB hI hX hU hP hW hY hS hM ds M' _ _ _ _ _ _ _ _ _ _ ex.t h
theorem vc_law {iT iB iI iX iU iP iW iY iS iM : Nat} {s0 s1 s2 s3 s4 s5 s6 s7 s8 s9 s10 s11 : Str} (hT : sp iT = spTape) (hB : sp iB = spTable) (hI : sp iI = spInside) (hX : sp iX = spMixture) (hU : sp iU = spDue) (hP : sp iP = spMixed) (hW : sp iW = spPower) (hY : sp iY = spMix) (hS : sp iS = spSum) (hM : sp iM = spTimes) :
    Vc sp (c_law iT iB iI iX iU iP iW iY iS iM) [s0, s1, s2, s3, s4, s5, s6, s7, s8, s9, s10, s11] (lawSp 63) := by
  rintro ds M Q R ⟨ns, hn, rfl, k⟩
  unfold c_law startD
  refine vs_cons ?_
  simp only [wpS, wpE, wpEs, wDrop, wRet, wRetN, wSet, wSetT, wPar, wStI, wVar, wLit, wBin, wUn, wCons, wNil, wTup, wLst, wIsN, wCh2, wSl, wpoS, wpoN, wCallF, wCall, wMth, Bo.op, Co.op, Bf.op, Mn.op, oAdd, oSub, oMul, oFdiv, oMod, oPow, oLt, oLe, oGt, oGe, oCmp, isB, isI, uNeg, D.nrm, bAbs, ixD_num, ixD_den, nrm_rD, wNext, wBrk, wCnt, wRetN, setAll, wFor, wpIk, wiV, wiR1, wiR2, Tn.tgt, Tn.is, wAnd, wOr, wNot, wIf, wIfS, List.getElem?_cons_zero, List.getElem?_cons_succ, List.set_cons_zero, List.set_cons_succ, List.map_cons, List.map_nil, List.length_cons, List.length_nil, List.cons_append, List.nil_append, List.append_nil, List.replicate, reduceIte, Bool.false_eq_true, Nat.zero_add, Nat.reduceAdd, Nat.reduceSub, Int.cast_ofNat_Int, Option.isSome_some, Option.isSome_none, reduceCtorEq, hT]
  refine ⟨ns, rfl, fun t M1 ht _ => ?_⟩
  refine vs_cons ?_
  simp only [wpS, wpE, wpEs, wDrop, wRet, wRetN, wSet, wSetT, wPar, wStI, wVar, wLit, wBin, wUn, wCons, wNil, wTup, wLst, wIsN, wCh2, wSl, wpoS, wpoN, wCallF, wCall, wMth, Bo.op, Co.op, Bf.op, Mn.op, oAdd, oSub, oMul, oFdiv, oMod, oPow, oLt, oLe, oGt, oGe, oCmp, isB, isI, uNeg, D.nrm, bAbs, ixD_num, ixD_den, nrm_rD, wNext, wBrk, wCnt, wRetN, setAll, wFor, wpIk, wiV, wiR1, wiR2, Tn.tgt, Tn.is, wAnd, wOr, wNot, wIf, wIfS, List.getElem?_cons_zero, List.getElem?_cons_succ, List.set_cons_zero, List.set_cons_succ, List.map_cons, List.map_nil, List.length_cons, List.length_nil, List.cons_append, List.nil_append, List.append_nil, List.replicate, reduceIte, Bool.false_eq_true, Nat.zero_add, Nat.reduceAdd, Nat.reduceSub, Int.cast_ofNat_Int, Option.isSome_some, Option.isSome_none, reduceCtorEq]
  refine ⟨rgOk_small (by decide) (by decide), ?_⟩
  refine out_loop (iT := iT) (n := 0) hB hI hX hU hP hW hY hS hM (rngD 0 (Int.toNat 4)) M1 _ _ _ _ _ _ _ _ _ _ (ht.le (by decide +kernel)) fun M' _ _ _ _ _ _ _ _ _ _ => ?_
  refine vs_cons ?_
  simp only [wpS, wpE, wpEs, wDrop, wRet, wRetN, wSet, wSetT, wPar, wStI, wVar, wLit, wBin, wUn, wCons, wNil, wTup, wLst, wIsN, wCh2, wSl, wpoS, wpoN, wCallF, wCall, wMth, Bo.op, Co.op, Bf.op, Mn.op, oAdd, oSub, oMul, oFdiv, oMod, oPow, oLt, oLe, oGt, oGe, oCmp, isB, isI, uNeg, D.nrm, bAbs, ixD_num, ixD_den, nrm_rD, wNext, wBrk, wCnt, wRetN, setAll, wFor, wpIk, wiV, wiR1, wiR2, Tn.tgt, Tn.is, wAnd, wOr, wNot, wIf, wIfS, List.getElem?_cons_zero, List.getElem?_cons_succ, List.set_cons_zero, List.set_cons_succ, List.map_cons, List.map_nil, List.length_cons, List.length_nil, List.cons_append, List.nil_append, List.append_nil, List.replicate, reduceIte, Bool.false_eq_true, Nat.zero_add, Nat.reduceAdd, Nat.reduceSub, Int.cast_ofNat_Int, Option.isSome_some, Option.isSome_none, reduceCtorEq]
  exact k _
end
end Pz


set_option Elab.async false
set_option linter.all false
set_option autoImplicit false
set_option maxRecDepth 100000
set_option maxHeartbeats 4000000
/-! The program by places, the head. -/
namespace Pz
open PySem PySem.Spec L2
open PyProof.Rows hiding St

def top (i : Nat) : Stmt := PySem.Challenge.pw_paceplan_k14_mixtures_told.main.body.getD i (.Pass ⟨0, 0, 0, 0⟩)
abbrev st_divisor : Stmt := top 7
def N_divisor : List Str := ["one", "other"]
theorem sc_divisor : FnScope N_divisor ["one", "other"] (defScope st_divisor) := ⟨rfl, rfl, rfl, by decide +kernel, rfl, by decide +kernel, by decide +kernel⟩
abbrev st_ratio : Stmt := top 8
def N_ratio : List Str := ["top", "bottom", "by"]
theorem sc_ratio : FnScope N_ratio ["top", "bottom"] (defScope st_ratio) := ⟨rfl, rfl, rfl, by decide +kernel, rfl, by decide +kernel, by decide +kernel⟩
abbrev st_plus : Stmt := top 9
def N_plus : List Str := ["one", "other"]
theorem sc_plus : FnScope N_plus ["one", "other"] (defScope st_plus) := ⟨rfl, rfl, rfl, by decide +kernel, rfl, by decide +kernel, by decide +kernel⟩
abbrev st_minus : Stmt := top 10
def N_minus : List Str := ["one", "other"]
theorem sc_minus : FnScope N_minus ["one", "other"] (defScope st_minus) := ⟨rfl, rfl, rfl, by decide +kernel, rfl, by decide +kernel, by decide +kernel⟩
abbrev st_times : Stmt := top 11
def N_times : List Str := ["one", "other"]
theorem sc_times : FnScope N_times ["one", "other"] (defScope st_times) := ⟨rfl, rfl, rfl, by decide +kernel, rfl, by decide +kernel, by decide +kernel⟩
abbrev st_over : Stmt := top 12
def N_over : List Str := ["one", "other"]
theorem sc_over : FnScope N_over ["one", "other"] (defScope st_over) := ⟨rfl, rfl, rfl, by decide +kernel, rfl, by decide +kernel, by decide +kernel⟩
abbrev st_is_less : Stmt := top 13
def N_is_less : List Str := ["one", "other"]
theorem sc_is_less : FnScope N_is_less ["one", "other"] (defScope st_is_less) := ⟨rfl, rfl, rfl, by decide +kernel, rfl, by decide +kernel, by decide +kernel⟩
abbrev st_total : Stmt := top 14
def N_total : List Str := ["some", "found", "one"]
theorem sc_total : FnScope N_total ["some"] (defScope st_total) := ⟨rfl, rfl, rfl, by decide +kernel, rfl, by decide +kernel, by decide +kernel⟩
abbrev st_row_speeds : Stmt := top 16
def N_row_speeds : List Str := ["table", "row"]
theorem sc_row_speeds : FnScope N_row_speeds ["table"] (defScope st_row_speeds) := ⟨rfl, rfl, rfl, by decide +kernel, rfl, by decide +kernel, by decide +kernel⟩
abbrev st_mixture : Stmt := top 17
def N_mixture : List Str := ["table", "speed", "speeds", "low", "high", "part"]
theorem sc_mixture : FnScope N_mixture ["table", "speed"] (defScope st_mixture) := ⟨rfl, rfl, rfl, by decide +kernel, rfl, by decide +kernel, by decide +kernel⟩
abbrev st_mixed_power : Stmt := top 18
def N_mixed_power : List Str := ["table", "mix", "powers", "speed", "part"]
theorem sc_mixed_power : FnScope N_mixed_power ["table", "mix"] (defScope st_mixed_power) := ⟨rfl, rfl, rfl, by decide +kernel, rfl, by decide +kernel, by decide +kernel⟩
abbrev st_law_tape : Stmt := top 20
def N_law_tape : List Str := ["_law_script"]
theorem sc_law_tape : FnScope N_law_tape ["_law_script"] (defScope st_law_tape) := ⟨rfl, rfl, rfl, by decide +kernel, rfl, by decide +kernel, by decide +kernel⟩
abbrev st_law_draw : Stmt := top 21
def N_law_draw : List Str := ["_law_tape_here", "_law_many", "_law_script", "_law_spot", "_law_left", "_law_cell", "_law_mixed"]
theorem sc_law_draw : FnScope N_law_draw ["_law_tape_here", "_law_many"] (defScope st_law_draw) := ⟨rfl, rfl, rfl, by decide +kernel, rfl, by decide +kernel, by decide +kernel⟩
abbrev st_law_gcd : Stmt := top 22
def N_law_gcd : List Str := ["_law_one", "_law_other"]
theorem sc_law_gcd : FnScope N_law_gcd ["_law_one", "_law_other"] (defScope st_law_gcd) := ⟨rfl, rfl, rfl, by decide +kernel, rfl, by decide +kernel, by decide +kernel⟩
abbrev st_law_ratio : Stmt := top 23
def N_law_ratio : List Str := ["_law_top", "_law_bottom", "_law_by"]
theorem sc_law_ratio : FnScope N_law_ratio ["_law_top", "_law_bottom"] (defScope st_law_ratio) := ⟨rfl, rfl, rfl, by decide +kernel, rfl, by decide +kernel, by decide +kernel⟩
abbrev st_law_plus : Stmt := top 24
def N_law_plus : List Str := ["_law_one", "_law_other"]
theorem sc_law_plus : FnScope N_law_plus ["_law_one", "_law_other"] (defScope st_law_plus) := ⟨rfl, rfl, rfl, by decide +kernel, rfl, by decide +kernel, by decide +kernel⟩
abbrev st_law_minus : Stmt := top 25
def N_law_minus : List Str := ["_law_one", "_law_other"]
theorem sc_law_minus : FnScope N_law_minus ["_law_one", "_law_other"] (defScope st_law_minus) := ⟨rfl, rfl, rfl, by decide +kernel, rfl, by decide +kernel, by decide +kernel⟩
abbrev st_law_times : Stmt := top 26
def N_law_times : List Str := ["_law_one", "_law_other"]
theorem sc_law_times : FnScope N_law_times ["_law_one", "_law_other"] (defScope st_law_times) := ⟨rfl, rfl, rfl, by decide +kernel, rfl, by decide +kernel, by decide +kernel⟩
abbrev st_law_over : Stmt := top 27
def N_law_over : List Str := ["_law_one", "_law_other"]
theorem sc_law_over : FnScope N_law_over ["_law_one", "_law_other"] (defScope st_law_over) := ⟨rfl, rfl, rfl, by decide +kernel, rfl, by decide +kernel, by decide +kernel⟩
abbrev st_law_less : Stmt := top 28
def N_law_less : List Str := ["_law_one", "_law_other"]
theorem sc_law_less : FnScope N_law_less ["_law_one", "_law_other"] (defScope st_law_less) := ⟨rfl, rfl, rfl, by decide +kernel, rfl, by decide +kernel, by decide +kernel⟩
abbrev st_law_sum : Stmt := top 29
def N_law_sum : List Str := ["_law_some", "_law_found", "_law_one"]
theorem sc_law_sum : FnScope N_law_sum ["_law_some"] (defScope st_law_sum) := ⟨rfl, rfl, rfl, by decide +kernel, rfl, by decide +kernel, by decide +kernel⟩
abbrev st_law_part : Stmt := top 30
def N_law_part : List Str := ["_law_tape_here", "_law_tops", "_law_bottoms"]
theorem sc_law_part : FnScope N_law_part ["_law_tape_here"] (defScope st_law_part) := ⟨rfl, rfl, rfl, by decide +kernel, rfl, by decide +kernel, by decide +kernel⟩
abbrev st_law_table : Stmt := top 31
def N_law_table : List Str := ["_law_tape_here", "_law_rows", "_law_slope", "_law_k", "_law_step", "_law_speed", "_law_power_here"]
theorem sc_law_table : FnScope N_law_table ["_law_tape_here"] (defScope st_law_table) := ⟨rfl, rfl, rfl, by decide +kernel, rfl, by decide +kernel, by decide +kernel⟩
abbrev st_law_power : Stmt := top 33
def N_law_power : List Str := ["_law_rule_here", "_law_speed", "_law_found", "_law_k", "_law_low", "_law_high", "_law_slope"]
theorem sc_law_power : FnScope N_law_power ["_law_rule_here", "_law_speed"] (defScope st_law_power) := ⟨rfl, rfl, rfl, by decide +kernel, rfl, by decide +kernel, by decide +kernel⟩
abbrev st_law_inside : Stmt := top 34
def N_law_inside : List Str := ["_law_tape_here", "_law_table_here", "_law_rows", "_law_low", "_law_high", "_law_part_here", "_law_k"]
theorem sc_law_inside : FnScope N_law_inside ["_law_tape_here", "_law_table_here"] (defScope st_law_inside) := ⟨rfl, rfl, rfl, by decide +kernel, rfl, by decide +kernel, by decide +kernel⟩
abbrev st_law_due : Stmt := top 35
def N_law_due : List Str := ["_law_table_here", "_law_speed", "_law_low", "_law_high", "_law_part_here"]
theorem sc_law_due : FnScope N_law_due ["_law_table_here", "_law_speed"] (defScope st_law_due) := ⟨rfl, rfl, rfl, by decide +kernel, rfl, by decide +kernel, by decide +kernel⟩
abbrev st_law_mix : Stmt := top 36
def N_law_mix : List Str := ["_law_tape_here", "_law_table_here", "_law_rows", "_law_shares", "_law_row", "_law_speed", "_law_share"]
theorem sc_law_mix : FnScope N_law_mix ["_law_tape_here", "_law_table_here"] (defScope st_law_mix) := ⟨rfl, rfl, rfl, by decide +kernel, rfl, by decide +kernel, by decide +kernel⟩
abbrev st_law : Stmt := top 37
def N_law : List Str := ["_law_script", "_law_tape_here", "_law_k", "_law_table_here", "_law_powers", "_law_j", "_law_speed", "_law_found", "_law_mix_here", "_law_due_here", "_law_one", "_law_part_here"]
theorem sc_law : FnScope N_law ["_law_script"] (defScope st_law) := ⟨rfl, rfl, rfl, by decide +kernel, rfl, by decide +kernel, by decide +kernel⟩
def fnsT : List (Str × Spec) := [("divisor", spGcd), ("ratio", spRatio), ("plus", spPlus), ("minus", spMinus), ("times", spTimes), ("over", spOver), ("is_less", spLess), ("total", spSum), ("row_speeds", spSpeeds), ("mixture", spMixture), ("mixed_power", spMixed), ("_law_tape", spTape), ("_law_draw", spDraw), ("_law_gcd", spGcd), ("_law_ratio", spRatio), ("_law_plus", spPlus), ("_law_minus", spMinus), ("_law_times", spTimes), ("_law_over", spOver), ("_law_less", spLess), ("_law_sum", spSum), ("_law_part", spPart), ("_law_table", spTable), ("_law_power", spPower), ("_law_inside", spInside), ("_law_due", spDue), ("_law_mix", spMix), ("law", (lawSp 63))]
def consT : List (Str × D) := [("NOUGHT", .tup [.int 0, .int 1]), ("ONE", .tup [.int 1, .int 1])]
def nbT : List Str := ["abs", "dict", "len", "range", "repr", "tuple", "zip"]
def tb (k : Nat) (N : List Str) : Gt := ⟨N, k, fnsT, consT, nbT⟩
theorem ck_divisor : (defBody st_divisor).map (stC (tb 0 N_divisor) 60 (defScope st_divisor)) = cGcd := by kernel_rfl
theorem ck_ratio : (defBody st_ratio).map (stC (tb 1 N_ratio) 60 (defScope st_ratio)) = cRatio 0 := by kernel_rfl
theorem ck_plus : (defBody st_plus).map (stC (tb 2 N_plus) 60 (defScope st_plus)) = cPlus 1 := by kernel_rfl
theorem ck_minus : (defBody st_minus).map (stC (tb 3 N_minus) 60 (defScope st_minus)) = cMinus 1 := by kernel_rfl
theorem ck_times : (defBody st_times).map (stC (tb 4 N_times) 60 (defScope st_times)) = cTimes 1 := by kernel_rfl
theorem ck_over : (defBody st_over).map (stC (tb 5 N_over) 60 (defScope st_over)) = cOver 1 := by kernel_rfl
theorem ck_is_less : (defBody st_is_less).map (stC (tb 6 N_is_less) 60 (defScope st_is_less)) = cLess := by kernel_rfl
theorem ck_total : (defBody st_total).map (stC (tb 7 N_total) 60 (defScope st_total)) = cSum (.lit (.tup [.int 0, .int 1])) 2 := by kernel_rfl
theorem ck_row_speeds : (defBody st_row_speeds).map (stC (tb 8 N_row_speeds) 60 (defScope st_row_speeds)) = c_row_speeds := by kernel_rfl
theorem ck_mixture : (defBody st_mixture).map (stC (tb 9 N_mixture) 60 (defScope st_mixture)) = c_mixture 8 6 5 3 := by kernel_rfl
theorem ck_mixed_power : (defBody st_mixed_power).map (stC (tb 10 N_mixed_power) 60 (defScope st_mixed_power)) = c_mixed_power 7 4 := by kernel_rfl
theorem ck_law_tape : (defBody st_law_tape).map (stC (tb 11 N_law_tape) 60 (defScope st_law_tape)) = cTape := by kernel_rfl
theorem ck_law_draw : (defBody st_law_draw).map (stC (tb 12 N_law_draw) 60 (defScope st_law_draw)) = cDraw := by kernel_rfl
theorem ck_law_gcd : (defBody st_law_gcd).map (stC (tb 13 N_law_gcd) 60 (defScope st_law_gcd)) = cGcd := by kernel_rfl
theorem ck_law_ratio : (defBody st_law_ratio).map (stC (tb 14 N_law_ratio) 60 (defScope st_law_ratio)) = cRatioL 13 := by kernel_rfl
theorem ck_law_plus : (defBody st_law_plus).map (stC (tb 15 N_law_plus) 60 (defScope st_law_plus)) = cPlus 14 := by kernel_rfl
theorem ck_law_minus : (defBody st_law_minus).map (stC (tb 16 N_law_minus) 60 (defScope st_law_minus)) = cMinus 14 := by kernel_rfl
theorem ck_law_times : (defBody st_law_times).map (stC (tb 17 N_law_times) 60 (defScope st_law_times)) = cTimes 14 := by kernel_rfl
theorem ck_law_over : (defBody st_law_over).map (stC (tb 18 N_law_over) 60 (defScope st_law_over)) = cOver 14 := by kernel_rfl
theorem ck_law_less : (defBody st_law_less).map (stC (tb 19 N_law_less) 60 (defScope st_law_less)) = cLess := by kernel_rfl
theorem ck_law_sum : (defBody st_law_sum).map (stC (tb 20 N_law_sum) 60 (defScope st_law_sum)) = cSum (.tup [.lit (.int 0), .lit (.int 1)]) 15 := by kernel_rfl
theorem ck_law_part : (defBody st_law_part).map (stC (tb 21 N_law_part) 60 (defScope st_law_part)) = cPart 12 14 := by kernel_rfl
theorem ck_law_table : (defBody st_law_table).map (stC (tb 22 N_law_table) 60 (defScope st_law_table)) = c_law_table 21 12 15 17 := by kernel_rfl
theorem ck_law_power : (defBody st_law_power).map (stC (tb 23 N_law_power) 60 (defScope st_law_power)) = c_law_power 17 19 18 16 15 := by kernel_rfl
theorem ck_law_inside : (defBody st_law_inside).map (stC (tb 24 N_law_inside) 60 (defScope st_law_inside)) = c_law_inside 12 14 15 17 16 := by kernel_rfl
theorem ck_law_due : (defBody st_law_due).map (stC (tb 25 N_law_due) 60 (defScope st_law_due)) = c_law_due 19 18 16 := by kernel_rfl
theorem ck_law_mix : (defBody st_law_mix).map (stC (tb 26 N_law_mix) 60 (defScope st_law_mix)) = c_law_mix 12 21 18 20 := by kernel_rfl
theorem ck_law : (defBody st_law).map (stC (tb 27 N_law) 60 (defScope st_law)) = c_law 11 22 24 9 25 10 23 26 20 17 := by kernel_rfl

section
variable {P : Program} {w : World} {K : PySem.W.Frag} {mg : Str → Option Value} {base : Heap}
/-- what is known of a def that the top made -/
structure DF (K : PySem.W.Frag) (name : Str) (st : Stmt) (f : Addr) (fd : FuncData) : Prop where
  ns : PySem.W.nsIn K mainGlobals name = some (some (.ref f))
  fn : Fun K name name st f fd
theorem df_mk {name : Str} {st : Stmt} {f : Addr} {od an : Option Addr} {sl : Array (Option Value)} {oc kV dc pm cd ct : Value} (a : PySem.W.nsIn K mainGlobals name = some (some (.ref f)))
    (l : K.lookup f = some ⟨oc, od, .func (PySem.W.fnOf name name (defArgs st) (defBody st) (defScope st) .none kV dc pm an cd ct), sl⟩) (c : PySem.W.codeIn K cd name = true) (k : PySem.W.keepIn K (.ref f) = true) :
    DF K name st f (PySem.W.fnOf name name (defArgs st) (defBody st) (defScope st) .none kV dc pm an cd ct) := ⟨a, fun_mk (st := st) l c k⟩
theorem pk_succ {T : Gt} (h : Pk P w K mg base T) {nm : Str} {sp : Spec} (e : T.fns[T.lv]? = some (nm, sp)) {f : Addr} {fd : FuncData} {ps : List Str} (F : FnG P w K mg base (T.lv + 1) f fd ps (spOf ⟨K, P, w⟩ sp)) (hm : mg nm = some (.ref f)) (kp : PySem.W.keepIn K (.ref f) = true) (bd : Binds K fd ps []) (N : List Str) :
    Pk P w K mg base ⟨N, T.lv + 1, T.fns, T.cons, T.nb⟩ := by
  refine ⟨fun j nm' sp' hj e' => ?_, h.con, h.nb⟩
  rcases Nat.lt_or_ge j T.lv with hl | hl
  · exact h.fn j nm' sp' hl e'
  · have ej : j = T.lv := Nat.le_antisymm (Nat.le_of_lt_succ hj) hl
    subst ej
    have e2 : T.fns[T.lv]? = some (nm', sp') := e'
    rw [e] at e2
    cases e2
    exact ⟨f, fd, ps, F, hm, kp, bd⟩
theorem pk_any {T : Gt} (h : Pk P w K mg base T) (N : List Str) : Pk P w K mg base ⟨N, T.lv, T.fns, T.cons, T.nb⟩ := ⟨h.fn, h.con, h.nb⟩
/-- a pair of whole numbers that the top made -/
structure CF (K : PySem.W.Frag) (name : Str) (i j : Int) (a : Addr) : Prop where
  ns : PySem.W.nsIn K mainGlobals name = some (some (.ref a))
  lk : ∃ (od : Option Addr) (t u : Tok) (n : Nat) (sl : Array (Option Value)), K.lookup a = some ⟨.type "tuple", od, .seq #[.int i t, .int j u] n, sl⟩
theorem cf_mk {name : Str} {i j : Int} {a : Addr} {od : Option Addr} {t u : Tok} {n : Nat} {sl : Array (Option Value)} (h : PySem.W.nsIn K mainGlobals name = some (some (.ref a))) (l : K.lookup a = some ⟨.type "tuple", od, .seq #[.int i t, .int j u] n, sl⟩) : CF K name i j a := ⟨h, od, t, u, n, sl, l⟩
theorem CF.rp {name : Str} {i j : Int} {a : Addr} (c : CF K name i j a) (H : Hp) : Rp ⟨K, P, w⟩ H (.tup [.int i, .int j]) (.ref a) := by
  obtain ⟨od, t, u, n, sl, l⟩ := c.lk
  exact ⟨a, [.int i, .int j], rfl, .inr ⟨_, _, _, l, rfl, rfl, (show 2 ≤ sizeLine by decide), .cons ⟨t, rfl⟩ (.cons ⟨u, rfl⟩ .nil)⟩, .int i, [.int j], rfl, rfl, .int j, [], rfl, rfl, rfl⟩

theorem ok_divisor {f : Addr} {fd : FuncData} (d : DF K "divisor" st_divisor f fd) (pk : Pk P w K mg base (tb 0 N_divisor)) : FnG P w K mg base 1 f fd ["one", "other"] (spOf ⟨K, P, w⟩ spGcd) :=
  def_ok (tb 0 N_divisor) 60 d.fn sc_divisor pk _ ck_divisor (by rintro ds M Q R ⟨_, _, rfl, _⟩; rfl) (vcGcd)
theorem ok_ratio {f : Addr} {fd : FuncData} (d : DF K "ratio" st_ratio f fd) (pk : Pk P w K mg base (tb 1 N_ratio)) : FnG P w K mg base 2 f fd ["top", "bottom"] (spOf ⟨K, P, w⟩ spRatio) :=
  def_ok (tb 1 N_ratio) 60 d.fn sc_ratio pk _ ck_ratio (by rintro ds M Q R ⟨_, _, rfl, _⟩; rfl) (vcRatio rfl)
theorem ok_plus {f : Addr} {fd : FuncData} (d : DF K "plus" st_plus f fd) (pk : Pk P w K mg base (tb 2 N_plus)) : FnG P w K mg base 3 f fd ["one", "other"] (spOf ⟨K, P, w⟩ spPlus) :=
  def_ok (tb 2 N_plus) 60 d.fn sc_plus pk _ ck_plus (by rintro ds M Q R ⟨_, _, rfl, _⟩; rfl) (vcPlus rfl)
theorem ok_minus {f : Addr} {fd : FuncData} (d : DF K "minus" st_minus f fd) (pk : Pk P w K mg base (tb 3 N_minus)) : FnG P w K mg base 4 f fd ["one", "other"] (spOf ⟨K, P, w⟩ spMinus) :=
  def_ok (tb 3 N_minus) 60 d.fn sc_minus pk _ ck_minus (by rintro ds M Q R ⟨_, _, rfl, _⟩; rfl) (vcMinus rfl)
theorem ok_times {f : Addr} {fd : FuncData} (d : DF K "times" st_times f fd) (pk : Pk P w K mg base (tb 4 N_times)) : FnG P w K mg base 5 f fd ["one", "other"] (spOf ⟨K, P, w⟩ spTimes) :=
  def_ok (tb 4 N_times) 60 d.fn sc_times pk _ ck_times (by rintro ds M Q R ⟨_, _, rfl, _⟩; rfl) (vcTimes rfl)
theorem ok_over {f : Addr} {fd : FuncData} (d : DF K "over" st_over f fd) (pk : Pk P w K mg base (tb 5 N_over)) : FnG P w K mg base 6 f fd ["one", "other"] (spOf ⟨K, P, w⟩ spOver) :=
  def_ok (tb 5 N_over) 60 d.fn sc_over pk _ ck_over (by rintro ds M Q R ⟨_, _, rfl, _⟩; rfl) (vcOver rfl)
theorem ok_is_less {f : Addr} {fd : FuncData} (d : DF K "is_less" st_is_less f fd) (pk : Pk P w K mg base (tb 6 N_is_less)) : FnG P w K mg base 7 f fd ["one", "other"] (spOf ⟨K, P, w⟩ spLess) :=
  def_ok (tb 6 N_is_less) 60 d.fn sc_is_less pk _ ck_is_less (by rintro ds M Q R ⟨_, _, rfl, _⟩; rfl) (vcLess)
theorem ok_total {f : Addr} {fd : FuncData} (d : DF K "total" st_total f fd) (pk : Pk P w K mg base (tb 7 N_total)) : FnG P w K mg base 8 f fd ["some"] (spOf ⟨K, P, w⟩ spSum) :=
  def_ok (tb 7 N_total) 60 d.fn sc_total pk _ ck_total (by rintro ds M Q R ⟨_, _, _, _, rfl, _⟩; rfl) (vcSum rfl z_lit)
theorem ok_row_speeds {f : Addr} {fd : FuncData} (d : DF K "row_speeds" st_row_speeds f fd) (pk : Pk P w K mg base (tb 8 N_row_speeds)) : FnG P w K mg base 9 f fd ["table"] (spOf ⟨K, P, w⟩ spSpeeds) :=
  def_ok (tb 8 N_row_speeds) 60 d.fn sc_row_speeds pk _ ck_row_speeds (by rintro ds M Q R ⟨_, rfl, _⟩; rfl) (vc_row_speeds)
theorem ok_mixture {f : Addr} {fd : FuncData} (d : DF K "mixture" st_mixture f fd) (pk : Pk P w K mg base (tb 9 N_mixture)) : FnG P w K mg base 10 f fd ["table", "speed"] (spOf ⟨K, P, w⟩ spMixture) :=
  def_ok (tb 9 N_mixture) 60 d.fn sc_mixture pk _ ck_mixture (by rintro ds M Q R ⟨_, _, rfl, _⟩; rfl) (vc_mixture rfl rfl rfl rfl)
theorem ok_mixed_power {f : Addr} {fd : FuncData} (d : DF K "mixed_power" st_mixed_power f fd) (pk : Pk P w K mg base (tb 10 N_mixed_power)) : FnG P w K mg base 11 f fd ["table", "mix"] (spOf ⟨K, P, w⟩ spMixed) :=
  def_ok (tb 10 N_mixed_power) 60 d.fn sc_mixed_power pk _ ck_mixed_power (by rintro ds M Q R ⟨_, _, _, rfl, _⟩; rfl) (vc_mixed rfl rfl)
theorem ok_law_tape {f : Addr} {fd : FuncData} (d : DF K "_law_tape" st_law_tape f fd) (pk : Pk P w K mg base (tb 11 N_law_tape)) : FnG P w K mg base 12 f fd ["_law_script"] (spOf ⟨K, P, w⟩ spTape) :=
  def_ok (tb 11 N_law_tape) 60 d.fn sc_law_tape pk _ ck_law_tape (by rintro ds M Q R ⟨_, rfl, _⟩; rfl) (vcTape)
theorem ok_law_draw {f : Addr} {fd : FuncData} (d : DF K "_law_draw" st_law_draw f fd) (pk : Pk P w K mg base (tb 12 N_law_draw)) : FnG P w K mg base 13 f fd ["_law_tape_here", "_law_many"] (spOf ⟨K, P, w⟩ spDraw) :=
  def_ok (tb 12 N_law_draw) 60 d.fn sc_law_draw pk _ ck_law_draw (by rintro ds M Q R ⟨_, _, _, rfl, _⟩; rfl) (vcDraw)
theorem ok_law_gcd {f : Addr} {fd : FuncData} (d : DF K "_law_gcd" st_law_gcd f fd) (pk : Pk P w K mg base (tb 13 N_law_gcd)) : FnG P w K mg base 14 f fd ["_law_one", "_law_other"] (spOf ⟨K, P, w⟩ spGcd) :=
  def_ok (tb 13 N_law_gcd) 60 d.fn sc_law_gcd pk _ ck_law_gcd (by rintro ds M Q R ⟨_, _, rfl, _⟩; rfl) (vcGcd)
theorem ok_law_ratio {f : Addr} {fd : FuncData} (d : DF K "_law_ratio" st_law_ratio f fd) (pk : Pk P w K mg base (tb 14 N_law_ratio)) : FnG P w K mg base 15 f fd ["_law_top", "_law_bottom"] (spOf ⟨K, P, w⟩ spRatio) :=
  def_ok (tb 14 N_law_ratio) 60 d.fn sc_law_ratio pk _ ck_law_ratio (by rintro ds M Q R ⟨_, _, rfl, _⟩; rfl) (vcRatioL rfl)
theorem ok_law_plus {f : Addr} {fd : FuncData} (d : DF K "_law_plus" st_law_plus f fd) (pk : Pk P w K mg base (tb 15 N_law_plus)) : FnG P w K mg base 16 f fd ["_law_one", "_law_other"] (spOf ⟨K, P, w⟩ spPlus) :=
  def_ok (tb 15 N_law_plus) 60 d.fn sc_law_plus pk _ ck_law_plus (by rintro ds M Q R ⟨_, _, rfl, _⟩; rfl) (vcPlus rfl)
theorem ok_law_minus {f : Addr} {fd : FuncData} (d : DF K "_law_minus" st_law_minus f fd) (pk : Pk P w K mg base (tb 16 N_law_minus)) : FnG P w K mg base 17 f fd ["_law_one", "_law_other"] (spOf ⟨K, P, w⟩ spMinus) :=
  def_ok (tb 16 N_law_minus) 60 d.fn sc_law_minus pk _ ck_law_minus (by rintro ds M Q R ⟨_, _, rfl, _⟩; rfl) (vcMinus rfl)
theorem ok_law_times {f : Addr} {fd : FuncData} (d : DF K "_law_times" st_law_times f fd) (pk : Pk P w K mg base (tb 17 N_law_times)) : FnG P w K mg base 18 f fd ["_law_one", "_law_other"] (spOf ⟨K, P, w⟩ spTimes) :=
  def_ok (tb 17 N_law_times) 60 d.fn sc_law_times pk _ ck_law_times (by rintro ds M Q R ⟨_, _, rfl, _⟩; rfl) (vcTimes rfl)
theorem ok_law_over {f : Addr} {fd : FuncData} (d : DF K "_law_over" st_law_over f fd) (pk : Pk P w K mg base (tb 18 N_law_over)) : FnG P w K mg base 19 f fd ["_law_one", "_law_other"] (spOf ⟨K, P, w⟩ spOver) :=
  def_ok (tb 18 N_law_over) 60 d.fn sc_law_over pk _ ck_law_over (by rintro ds M Q R ⟨_, _, rfl, _⟩; rfl) (vcOver rfl)
theorem ok_law_less {f : Addr} {fd : FuncData} (d : DF K "_law_less" st_law_less f fd) (pk : Pk P w K mg base (tb 19 N_law_less)) : FnG P w K mg base 20 f fd ["_law_one", "_law_other"] (spOf ⟨K, P, w⟩ spLess) :=
  def_ok (tb 19 N_law_less) 60 d.fn sc_law_less pk _ ck_law_less (by rintro ds M Q R ⟨_, _, rfl, _⟩; rfl) (vcLess)
theorem ok_law_sum {f : Addr} {fd : FuncData} (d : DF K "_law_sum" st_law_sum f fd) (pk : Pk P w K mg base (tb 20 N_law_sum)) : FnG P w K mg base 21 f fd ["_law_some"] (spOf ⟨K, P, w⟩ spSum) :=
  def_ok (tb 20 N_law_sum) 60 d.fn sc_law_sum pk _ ck_law_sum (by rintro ds M Q R ⟨_, _, _, _, rfl, _⟩; rfl) (vcSum rfl z_tup)
theorem ok_law_part {f : Addr} {fd : FuncData} (d : DF K "_law_part" st_law_part f fd) (pk : Pk P w K mg base (tb 21 N_law_part)) : FnG P w K mg base 22 f fd ["_law_tape_here"] (spOf ⟨K, P, w⟩ spPart) :=
  def_ok (tb 21 N_law_part) 60 d.fn sc_law_part pk _ ck_law_part (by rintro ds M Q R ⟨_, _, rfl, _⟩; rfl) (vcPart rfl rfl)
theorem ok_law_table {f : Addr} {fd : FuncData} (d : DF K "_law_table" st_law_table f fd) (pk : Pk P w K mg base (tb 22 N_law_table)) : FnG P w K mg base 23 f fd ["_law_tape_here"] (spOf ⟨K, P, w⟩ spTable) :=
  def_ok (tb 22 N_law_table) 60 d.fn sc_law_table pk _ ck_law_table (by rintro ds M Q R ⟨_, _, rfl, _⟩; rfl) (vc_table rfl rfl rfl rfl)
theorem ok_law_power {f : Addr} {fd : FuncData} (d : DF K "_law_power" st_law_power f fd) (pk : Pk P w K mg base (tb 23 N_law_power)) : FnG P w K mg base 24 f fd ["_law_rule_here", "_law_speed"] (spOf ⟨K, P, w⟩ spPower) :=
  def_ok (tb 23 N_law_power) 60 d.fn sc_law_power pk _ ck_law_power (by rintro ds M Q R ⟨_, _, rfl, _⟩; rfl) (vc_power rfl rfl rfl rfl rfl)
theorem ok_law_inside {f : Addr} {fd : FuncData} (d : DF K "_law_inside" st_law_inside f fd) (pk : Pk P w K mg base (tb 24 N_law_inside)) : FnG P w K mg base 25 f fd ["_law_tape_here", "_law_table_here"] (spOf ⟨K, P, w⟩ spInside) :=
  def_ok (tb 24 N_law_inside) 60 d.fn sc_law_inside pk _ ck_law_inside (by rintro ds M Q R ⟨_, _, _, rfl, _⟩; rfl) (vc_inside rfl rfl rfl rfl rfl)
theorem ok_law_due {f : Addr} {fd : FuncData} (d : DF K "_law_due" st_law_due f fd) (pk : Pk P w K mg base (tb 25 N_law_due)) : FnG P w K mg base 26 f fd ["_law_table_here", "_law_speed"] (spOf ⟨K, P, w⟩ spDue) :=
  def_ok (tb 25 N_law_due) 60 d.fn sc_law_due pk _ ck_law_due (by rintro ds M Q R ⟨_, _, rfl, _⟩; rfl) (vc_due rfl rfl rfl)
theorem ok_law_mix {f : Addr} {fd : FuncData} (d : DF K "_law_mix" st_law_mix f fd) (pk : Pk P w K mg base (tb 26 N_law_mix)) : FnG P w K mg base 27 f fd ["_law_tape_here", "_law_table_here"] (spOf ⟨K, P, w⟩ spMix) :=
  def_ok (tb 26 N_law_mix) 60 d.fn sc_law_mix pk _ ck_law_mix (by rintro ds M Q R ⟨_, _, _, rfl, _⟩; rfl) (vc_mix rfl rfl rfl rfl)
theorem ok_law {f : Addr} {fd : FuncData} (d : DF K "law" st_law f fd) (pk : Pk P w K mg base (tb 27 N_law)) : FnG P w K mg base 28 f fd ["_law_script"] (spOf ⟨K, P, w⟩ (lawSp 63)) :=
  def_ok (tb 27 N_law) 60 d.fn sc_law pk _ ck_law (by rintro ds M Q R ⟨_, _, rfl, _⟩; rfl) (vc_law rfl rfl rfl rfl rfl rfl rfl rfl rfl rfl)
end
theorem all_mk {P : Program} {w : World} {K : PySem.W.Frag} {h : Heap} {mg : Str → Option Value} {fa : Addr} (X : K.In h) (G : h.Ns mainGlobals mg) (hfa : mg "law" = some (.ref fa))
    {f_divisor : Addr} {fd_divisor : FuncData} (d_divisor : DF K "divisor" st_divisor f_divisor fd_divisor)
    {f_ratio : Addr} {fd_ratio : FuncData} (d_ratio : DF K "ratio" st_ratio f_ratio fd_ratio)
    {f_plus : Addr} {fd_plus : FuncData} (d_plus : DF K "plus" st_plus f_plus fd_plus)
    {f_minus : Addr} {fd_minus : FuncData} (d_minus : DF K "minus" st_minus f_minus fd_minus)
    {f_times : Addr} {fd_times : FuncData} (d_times : DF K "times" st_times f_times fd_times)
    {f_over : Addr} {fd_over : FuncData} (d_over : DF K "over" st_over f_over fd_over)
    {f_is_less : Addr} {fd_is_less : FuncData} (d_is_less : DF K "is_less" st_is_less f_is_less fd_is_less)
    {f_total : Addr} {fd_total : FuncData} (d_total : DF K "total" st_total f_total fd_total)
    {f_row_speeds : Addr} {fd_row_speeds : FuncData} (d_row_speeds : DF K "row_speeds" st_row_speeds f_row_speeds fd_row_speeds)
    {f_mixture : Addr} {fd_mixture : FuncData} (d_mixture : DF K "mixture" st_mixture f_mixture fd_mixture)
    {f_mixed_power : Addr} {fd_mixed_power : FuncData} (d_mixed_power : DF K "mixed_power" st_mixed_power f_mixed_power fd_mixed_power)
    {f_law_tape : Addr} {fd_law_tape : FuncData} (d_law_tape : DF K "_law_tape" st_law_tape f_law_tape fd_law_tape)
    {f_law_draw : Addr} {fd_law_draw : FuncData} (d_law_draw : DF K "_law_draw" st_law_draw f_law_draw fd_law_draw)
    {f_law_gcd : Addr} {fd_law_gcd : FuncData} (d_law_gcd : DF K "_law_gcd" st_law_gcd f_law_gcd fd_law_gcd)
    {f_law_ratio : Addr} {fd_law_ratio : FuncData} (d_law_ratio : DF K "_law_ratio" st_law_ratio f_law_ratio fd_law_ratio)
    {f_law_plus : Addr} {fd_law_plus : FuncData} (d_law_plus : DF K "_law_plus" st_law_plus f_law_plus fd_law_plus)
    {f_law_minus : Addr} {fd_law_minus : FuncData} (d_law_minus : DF K "_law_minus" st_law_minus f_law_minus fd_law_minus)
    {f_law_times : Addr} {fd_law_times : FuncData} (d_law_times : DF K "_law_times" st_law_times f_law_times fd_law_times)
    {f_law_over : Addr} {fd_law_over : FuncData} (d_law_over : DF K "_law_over" st_law_over f_law_over fd_law_over)
    {f_law_less : Addr} {fd_law_less : FuncData} (d_law_less : DF K "_law_less" st_law_less f_law_less fd_law_less)
    {f_law_sum : Addr} {fd_law_sum : FuncData} (d_law_sum : DF K "_law_sum" st_law_sum f_law_sum fd_law_sum)
    {f_law_part : Addr} {fd_law_part : FuncData} (d_law_part : DF K "_law_part" st_law_part f_law_part fd_law_part)
    {f_law_table : Addr} {fd_law_table : FuncData} (d_law_table : DF K "_law_table" st_law_table f_law_table fd_law_table)
    {f_law_power : Addr} {fd_law_power : FuncData} (d_law_power : DF K "_law_power" st_law_power f_law_power fd_law_power)
    {f_law_inside : Addr} {fd_law_inside : FuncData} (d_law_inside : DF K "_law_inside" st_law_inside f_law_inside fd_law_inside)
    {f_law_due : Addr} {fd_law_due : FuncData} (d_law_due : DF K "_law_due" st_law_due f_law_due fd_law_due)
    {f_law_mix : Addr} {fd_law_mix : FuncData} (d_law_mix : DF K "_law_mix" st_law_mix f_law_mix fd_law_mix)
    {f_law : Addr} {fd_law : FuncData} (d_law : DF K "law" st_law f_law fd_law)
    {a_NOUGHT : Addr} (c_NOUGHT : CF K "NOUGHT" 0 1 a_NOUGHT)
    {a_ONE : Addr} (c_ONE : CF K "ONE" 1 1 a_ONE)
    (z_abs : PySem.W.nsIn K mainGlobals "abs" = some none)
    (z_dict : PySem.W.nsIn K mainGlobals "dict" = some none)
    (z_len : PySem.W.nsIn K mainGlobals "len" = some none)
    (z_range : PySem.W.nsIn K mainGlobals "range" = some none)
    (z_repr : PySem.W.nsIn K mainGlobals "repr" = some none)
    (z_tuple : PySem.W.nsIn K mainGlobals "tuple" = some none)
    (z_zip : PySem.W.nsIn K mainGlobals "zip" = some none)
    : ∃ fd : FuncData, (∀ (s : Shared) (v : Value), BindsTo s fd ⟨[v], []⟩ [("_law_script", v)]) ∧ ∀ base : Heap, K.In base → base.Ns mainGlobals mg → FnG P w K mg base 28 fa fd ["_law_script"] (spOf ⟨K, P, w⟩ (lawSp 63)) := by
  have e := hfa.symm.trans (PySem.W.mg_of X G d_law.ns)
  cases e
  have bl : Binds K fd_law ["_law_script"] [] := d_law.fn.binds fun _ _ _ _ _ _ us hl => match us, hl with | [_], _ => rfl
  refine ⟨fd_law, ?_, fun base _ _ => ?_⟩
  · intro s v
    obtain ⟨oc, od, kV, doc, pm, an, cdv, ct, osl, rfl, lk, hcd⟩ := d_law.fn.ex
    exact .of_eq rfl
  have pk0 : Pk P w K mg base (tb 0 N_divisor) := by
    refine ⟨fun j nm sp hj _ => absurd hj (Nat.not_lt_zero j), fun nm d hd => ?_, fun nm hn => ?_⟩
    · have hd : consT.lookup nm = some d := hd
      unfold consT at hd
      rw [List.lookup_cons] at hd
      split at hd
      · rename_i q; cases hd; have q := eq_of_beq q; subst q; exact ⟨.ref a_NOUGHT, .ref a_NOUGHT, PySem.W.mg_of X G c_NOUGHT.ns, rfl, c_NOUGHT.rp⟩
      rw [List.lookup_cons] at hd
      split at hd
      · rename_i q; cases hd; have q := eq_of_beq q; subst q; exact ⟨.ref a_ONE, .ref a_ONE, PySem.W.mg_of X G c_ONE.ns, rfl, c_ONE.rp⟩
      cases hd
    · have hn : nm ∈ nbT := hn
      simp only [nbT, List.mem_cons, List.not_mem_nil, or_false] at hn
      rcases hn with rfl | rfl | rfl | rfl | rfl | rfl | rfl
      · exact PySem.W.mg_none_of X G z_abs
      · exact PySem.W.mg_none_of X G z_dict
      · exact PySem.W.mg_none_of X G z_len
      · exact PySem.W.mg_none_of X G z_range
      · exact PySem.W.mg_none_of X G z_repr
      · exact PySem.W.mg_none_of X G z_tuple
      · exact PySem.W.mg_none_of X G z_zip
  have pk1 : Pk P w K mg base (tb 1 N_ratio) := pk_succ pk0 rfl (ok_divisor d_divisor pk0) (PySem.W.mg_of X G d_divisor.ns) d_divisor.fn.kp (d_divisor.fn.binds (ps := ["one", "other"]) fun _ _ _ _ _ _ us hl => match us, hl with | [_, _], _ => rfl) N_ratio
  have pk2 : Pk P w K mg base (tb 2 N_plus) := pk_succ pk1 rfl (ok_ratio d_ratio pk1) (PySem.W.mg_of X G d_ratio.ns) d_ratio.fn.kp (d_ratio.fn.binds (ps := ["top", "bottom"]) fun _ _ _ _ _ _ us hl => match us, hl with | [_, _], _ => rfl) N_plus
  have pk3 : Pk P w K mg base (tb 3 N_minus) := pk_succ pk2 rfl (ok_plus d_plus pk2) (PySem.W.mg_of X G d_plus.ns) d_plus.fn.kp (d_plus.fn.binds (ps := ["one", "other"]) fun _ _ _ _ _ _ us hl => match us, hl with | [_, _], _ => rfl) N_minus
  have pk4 : Pk P w K mg base (tb 4 N_times) := pk_succ pk3 rfl (ok_minus d_minus pk3) (PySem.W.mg_of X G d_minus.ns) d_minus.fn.kp (d_minus.fn.binds (ps := ["one", "other"]) fun _ _ _ _ _ _ us hl => match us, hl with | [_, _], _ => rfl) N_times
  have pk5 : Pk P w K mg base (tb 5 N_over) := pk_succ pk4 rfl (ok_times d_times pk4) (PySem.W.mg_of X G d_times.ns) d_times.fn.kp (d_times.fn.binds (ps := ["one", "other"]) fun _ _ _ _ _ _ us hl => match us, hl with | [_, _], _ => rfl) N_over
  have pk6 : Pk P w K mg base (tb 6 N_is_less) := pk_succ pk5 rfl (ok_over d_over pk5) (PySem.W.mg_of X G d_over.ns) d_over.fn.kp (d_over.fn.binds (ps := ["one", "other"]) fun _ _ _ _ _ _ us hl => match us, hl with | [_, _], _ => rfl) N_is_less
  have pk7 : Pk P w K mg base (tb 7 N_total) := pk_succ pk6 rfl (ok_is_less d_is_less pk6) (PySem.W.mg_of X G d_is_less.ns) d_is_less.fn.kp (d_is_less.fn.binds (ps := ["one", "other"]) fun _ _ _ _ _ _ us hl => match us, hl with | [_, _], _ => rfl) N_total
  have pk8 : Pk P w K mg base (tb 8 N_row_speeds) := pk_succ pk7 rfl (ok_total d_total pk7) (PySem.W.mg_of X G d_total.ns) d_total.fn.kp (d_total.fn.binds (ps := ["some"]) fun _ _ _ _ _ _ us hl => match us, hl with | [_], _ => rfl) N_row_speeds
  have pk9 : Pk P w K mg base (tb 9 N_mixture) := pk_succ pk8 rfl (ok_row_speeds d_row_speeds pk8) (PySem.W.mg_of X G d_row_speeds.ns) d_row_speeds.fn.kp (d_row_speeds.fn.binds (ps := ["table"]) fun _ _ _ _ _ _ us hl => match us, hl with | [_], _ => rfl) N_mixture
  have pk10 : Pk P w K mg base (tb 10 N_mixed_power) := pk_succ pk9 rfl (ok_mixture d_mixture pk9) (PySem.W.mg_of X G d_mixture.ns) d_mixture.fn.kp (d_mixture.fn.binds (ps := ["table", "speed"]) fun _ _ _ _ _ _ us hl => match us, hl with | [_, _], _ => rfl) N_mixed_power
  have pk11 : Pk P w K mg base (tb 11 N_law_tape) := pk_succ pk10 rfl (ok_mixed_power d_mixed_power pk10) (PySem.W.mg_of X G d_mixed_power.ns) d_mixed_power.fn.kp (d_mixed_power.fn.binds (ps := ["table", "mix"]) fun _ _ _ _ _ _ us hl => match us, hl with | [_, _], _ => rfl) N_law_tape
  have pk12 : Pk P w K mg base (tb 12 N_law_draw) := pk_succ pk11 rfl (ok_law_tape d_law_tape pk11) (PySem.W.mg_of X G d_law_tape.ns) d_law_tape.fn.kp (d_law_tape.fn.binds (ps := ["_law_script"]) fun _ _ _ _ _ _ us hl => match us, hl with | [_], _ => rfl) N_law_draw
  have pk13 : Pk P w K mg base (tb 13 N_law_gcd) := pk_succ pk12 rfl (ok_law_draw d_law_draw pk12) (PySem.W.mg_of X G d_law_draw.ns) d_law_draw.fn.kp (d_law_draw.fn.binds (ps := ["_law_tape_here", "_law_many"]) fun _ _ _ _ _ _ us hl => match us, hl with | [_, _], _ => rfl) N_law_gcd
  have pk14 : Pk P w K mg base (tb 14 N_law_ratio) := pk_succ pk13 rfl (ok_law_gcd d_law_gcd pk13) (PySem.W.mg_of X G d_law_gcd.ns) d_law_gcd.fn.kp (d_law_gcd.fn.binds (ps := ["_law_one", "_law_other"]) fun _ _ _ _ _ _ us hl => match us, hl with | [_, _], _ => rfl) N_law_ratio
  have pk15 : Pk P w K mg base (tb 15 N_law_plus) := pk_succ pk14 rfl (ok_law_ratio d_law_ratio pk14) (PySem.W.mg_of X G d_law_ratio.ns) d_law_ratio.fn.kp (d_law_ratio.fn.binds (ps := ["_law_top", "_law_bottom"]) fun _ _ _ _ _ _ us hl => match us, hl with | [_, _], _ => rfl) N_law_plus
  have pk16 : Pk P w K mg base (tb 16 N_law_minus) := pk_succ pk15 rfl (ok_law_plus d_law_plus pk15) (PySem.W.mg_of X G d_law_plus.ns) d_law_plus.fn.kp (d_law_plus.fn.binds (ps := ["_law_one", "_law_other"]) fun _ _ _ _ _ _ us hl => match us, hl with | [_, _], _ => rfl) N_law_minus
  have pk17 : Pk P w K mg base (tb 17 N_law_times) := pk_succ pk16 rfl (ok_law_minus d_law_minus pk16) (PySem.W.mg_of X G d_law_minus.ns) d_law_minus.fn.kp (d_law_minus.fn.binds (ps := ["_law_one", "_law_other"]) fun _ _ _ _ _ _ us hl => match us, hl with | [_, _], _ => rfl) N_law_times
  have pk18 : Pk P w K mg base (tb 18 N_law_over) := pk_succ pk17 rfl (ok_law_times d_law_times pk17) (PySem.W.mg_of X G d_law_times.ns) d_law_times.fn.kp (d_law_times.fn.binds (ps := ["_law_one", "_law_other"]) fun _ _ _ _ _ _ us hl => match us, hl with | [_, _], _ => rfl) N_law_over
  have pk19 : Pk P w K mg base (tb 19 N_law_less) := pk_succ pk18 rfl (ok_law_over d_law_over pk18) (PySem.W.mg_of X G d_law_over.ns) d_law_over.fn.kp (d_law_over.fn.binds (ps := ["_law_one", "_law_other"]) fun _ _ _ _ _ _ us hl => match us, hl with | [_, _], _ => rfl) N_law_less
  have pk20 : Pk P w K mg base (tb 20 N_law_sum) := pk_succ pk19 rfl (ok_law_less d_law_less pk19) (PySem.W.mg_of X G d_law_less.ns) d_law_less.fn.kp (d_law_less.fn.binds (ps := ["_law_one", "_law_other"]) fun _ _ _ _ _ _ us hl => match us, hl with | [_, _], _ => rfl) N_law_sum
  have pk21 : Pk P w K mg base (tb 21 N_law_part) := pk_succ pk20 rfl (ok_law_sum d_law_sum pk20) (PySem.W.mg_of X G d_law_sum.ns) d_law_sum.fn.kp (d_law_sum.fn.binds (ps := ["_law_some"]) fun _ _ _ _ _ _ us hl => match us, hl with | [_], _ => rfl) N_law_part
  have pk22 : Pk P w K mg base (tb 22 N_law_table) := pk_succ pk21 rfl (ok_law_part d_law_part pk21) (PySem.W.mg_of X G d_law_part.ns) d_law_part.fn.kp (d_law_part.fn.binds (ps := ["_law_tape_here"]) fun _ _ _ _ _ _ us hl => match us, hl with | [_], _ => rfl) N_law_table
  have pk23 : Pk P w K mg base (tb 23 N_law_power) := pk_succ pk22 rfl (ok_law_table d_law_table pk22) (PySem.W.mg_of X G d_law_table.ns) d_law_table.fn.kp (d_law_table.fn.binds (ps := ["_law_tape_here"]) fun _ _ _ _ _ _ us hl => match us, hl with | [_], _ => rfl) N_law_power
  have pk24 : Pk P w K mg base (tb 24 N_law_inside) := pk_succ pk23 rfl (ok_law_power d_law_power pk23) (PySem.W.mg_of X G d_law_power.ns) d_law_power.fn.kp (d_law_power.fn.binds (ps := ["_law_rule_here", "_law_speed"]) fun _ _ _ _ _ _ us hl => match us, hl with | [_, _], _ => rfl) N_law_inside
  have pk25 : Pk P w K mg base (tb 25 N_law_due) := pk_succ pk24 rfl (ok_law_inside d_law_inside pk24) (PySem.W.mg_of X G d_law_inside.ns) d_law_inside.fn.kp (d_law_inside.fn.binds (ps := ["_law_tape_here", "_law_table_here"]) fun _ _ _ _ _ _ us hl => match us, hl with | [_, _], _ => rfl) N_law_due
  have pk26 : Pk P w K mg base (tb 26 N_law_mix) := pk_succ pk25 rfl (ok_law_due d_law_due pk25) (PySem.W.mg_of X G d_law_due.ns) d_law_due.fn.kp (d_law_due.fn.binds (ps := ["_law_table_here", "_law_speed"]) fun _ _ _ _ _ _ us hl => match us, hl with | [_, _], _ => rfl) N_law_mix
  have pk27 : Pk P w K mg base (tb 27 N_law) := pk_succ pk26 rfl (ok_law_mix d_law_mix pk26) (PySem.W.mg_of X G d_law_mix.ns) d_law_mix.fn.kp (d_law_mix.fn.binds (ps := ["_law_tape_here", "_law_table_here"]) fun _ _ _ _ _ _ us hl => match us, hl with | [_, _], _ => rfl) N_law
  exact ok_law d_law pk27
end Pz

open PySem PySem.W PyProof.Rows in
set_option maxRecDepth 100000 in
set_option maxHeartbeats 0 in
theorem PySem.Challenge.cw_paceplan_k14_mixtures_told_holds : PySem.Challenge.rw_paceplan_k14_mixtures_told.Holds := by
  w_on; o_law; k_head; (case hw => w_witness2)
  k_fill
  refine Pz.walkG (l := PySem.Challenge.rw_paceplan_k14_mixtures_told) (n := 63) (k := 28) (x := "_law_script") rfl (by decide) rfl ⟨rfl, by decide, by decide⟩ (fun w h Y => PySem.W.kIn_of Y) ?F
  case F =>
    intro w mg fa h KX G hmg
    refine' Pz.all_mk KX G hmg (Pz.df_mk (st := Pz.st_divisor) ?a_divisor ?l_divisor ?c_divisor ?k_divisor) (Pz.df_mk (st := Pz.st_ratio) ?a_ratio ?l_ratio ?c_ratio ?k_ratio) (Pz.df_mk (st := Pz.st_plus) ?a_plus ?l_plus ?c_plus ?k_plus) (Pz.df_mk (st := Pz.st_minus) ?a_minus ?l_minus ?c_minus ?k_minus) (Pz.df_mk (st := Pz.st_times) ?a_times ?l_times ?c_times ?k_times) (Pz.df_mk (st := Pz.st_over) ?a_over ?l_over ?c_over ?k_over) (Pz.df_mk (st := Pz.st_is_less) ?a_is_less ?l_is_less ?c_is_less ?k_is_less) (Pz.df_mk (st := Pz.st_total) ?a_total ?l_total ?c_total ?k_total) (Pz.df_mk (st := Pz.st_row_speeds) ?a_row_speeds ?l_row_speeds ?c_row_speeds ?k_row_speeds) (Pz.df_mk (st := Pz.st_mixture) ?a_mixture ?l_mixture ?c_mixture ?k_mixture) (Pz.df_mk (st := Pz.st_mixed_power) ?a_mixed_power ?l_mixed_power ?c_mixed_power ?k_mixed_power) (Pz.df_mk (st := Pz.st_law_tape) ?a_law_tape ?l_law_tape ?c_law_tape ?k_law_tape) (Pz.df_mk (st := Pz.st_law_draw) ?a_law_draw ?l_law_draw ?c_law_draw ?k_law_draw) (Pz.df_mk (st := Pz.st_law_gcd) ?a_law_gcd ?l_law_gcd ?c_law_gcd ?k_law_gcd) (Pz.df_mk (st := Pz.st_law_ratio) ?a_law_ratio ?l_law_ratio ?c_law_ratio ?k_law_ratio) (Pz.df_mk (st := Pz.st_law_plus) ?a_law_plus ?l_law_plus ?c_law_plus ?k_law_plus) (Pz.df_mk (st := Pz.st_law_minus) ?a_law_minus ?l_law_minus ?c_law_minus ?k_law_minus) (Pz.df_mk (st := Pz.st_law_times) ?a_law_times ?l_law_times ?c_law_times ?k_law_times) (Pz.df_mk (st := Pz.st_law_over) ?a_law_over ?l_law_over ?c_law_over ?k_law_over) (Pz.df_mk (st := Pz.st_law_less) ?a_law_less ?l_law_less ?c_law_less ?k_law_less) (Pz.df_mk (st := Pz.st_law_sum) ?a_law_sum ?l_law_sum ?c_law_sum ?k_law_sum) (Pz.df_mk (st := Pz.st_law_part) ?a_law_part ?l_law_part ?c_law_part ?k_law_part) (Pz.df_mk (st := Pz.st_law_table) ?a_law_table ?l_law_table ?c_law_table ?k_law_table) (Pz.df_mk (st := Pz.st_law_power) ?a_law_power ?l_law_power ?c_law_power ?k_law_power) (Pz.df_mk (st := Pz.st_law_inside) ?a_law_inside ?l_law_inside ?c_law_inside ?k_law_inside) (Pz.df_mk (st := Pz.st_law_due) ?a_law_due ?l_law_due ?c_law_due ?k_law_due) (Pz.df_mk (st := Pz.st_law_mix) ?a_law_mix ?l_law_mix ?c_law_mix ?k_law_mix) (Pz.df_mk (st := Pz.st_law) ?a_law ?l_law ?c_law ?k_law) (Pz.cf_mk ?h_NOUGHT ?m_NOUGHT) (Pz.cf_mk ?h_ONE ?m_ONE) ?z_abs ?z_dict ?z_len ?z_range ?z_repr ?z_tuple ?z_zip
    (case a_divisor => k_is)
    (case l_divisor => k_is)
    (case c_divisor => k_is)
    (case k_divisor => k_is)
    (case a_ratio => k_is)
    (case l_ratio => k_is)
    (case c_ratio => k_is)
    (case k_ratio => k_is)
    (case a_plus => k_is)
    (case l_plus => k_is)
    (case c_plus => k_is)
    (case k_plus => k_is)
    (case a_minus => k_is)
    (case l_minus => k_is)
    (case c_minus => k_is)
    (case k_minus => k_is)
    (case a_times => k_is)
    (case l_times => k_is)
    (case c_times => k_is)
    (case k_times => k_is)
    (case a_over => k_is)
    (case l_over => k_is)
    (case c_over => k_is)
    (case k_over => k_is)
    (case a_is_less => k_is)
    (case l_is_less => k_is)
    (case c_is_less => k_is)
    (case k_is_less => k_is)
    (case a_total => k_is)
    (case l_total => k_is)
    (case c_total => k_is)
    (case k_total => k_is)
    (case a_row_speeds => k_is)
    (case l_row_speeds => k_is)
    (case c_row_speeds => k_is)
    (case k_row_speeds => k_is)
    (case a_mixture => k_is)
    (case l_mixture => k_is)
    (case c_mixture => k_is)
    (case k_mixture => k_is)
    (case a_mixed_power => k_is)
    (case l_mixed_power => k_is)
    (case c_mixed_power => k_is)
    (case k_mixed_power => k_is)
    (case a_law_tape => k_is)
    (case l_law_tape => k_is)
    (case c_law_tape => k_is)
    (case k_law_tape => k_is)
    (case a_law_draw => k_is)
    (case l_law_draw => k_is)
    (case c_law_draw => k_is)
    (case k_law_draw => k_is)
    (case a_law_gcd => k_is)
    (case l_law_gcd => k_is)
    (case c_law_gcd => k_is)
    (case k_law_gcd => k_is)
    (case a_law_ratio => k_is)
    (case l_law_ratio => k_is)
    (case c_law_ratio => k_is)
    (case k_law_ratio => k_is)
    (case a_law_plus => k_is)
    (case l_law_plus => k_is)
    (case c_law_plus => k_is)
    (case k_law_plus => k_is)
    (case a_law_minus => k_is)
    (case l_law_minus => k_is)
    (case c_law_minus => k_is)
    (case k_law_minus => k_is)
    (case a_law_times => k_is)
    (case l_law_times => k_is)
    (case c_law_times => k_is)
    (case k_law_times => k_is)
    (case a_law_over => k_is)
    (case l_law_over => k_is)
    (case c_law_over => k_is)
    (case k_law_over => k_is)
    (case a_law_less => k_is)
    (case l_law_less => k_is)
    (case c_law_less => k_is)
    (case k_law_less => k_is)
    (case a_law_sum => k_is)
    (case l_law_sum => k_is)
    (case c_law_sum => k_is)
    (case k_law_sum => k_is)
    (case a_law_part => k_is)
    (case l_law_part => k_is)
    (case c_law_part => k_is)
    (case k_law_part => k_is)
    (case a_law_table => k_is)
    (case l_law_table => k_is)
    (case c_law_table => k_is)
    (case k_law_table => k_is)
    (case a_law_power => k_is)
    (case l_law_power => k_is)
    (case c_law_power => k_is)
    (case k_law_power => k_is)
    (case a_law_inside => k_is)
    (case l_law_inside => k_is)
    (case c_law_inside => k_is)
    (case k_law_inside => k_is)
    (case a_law_due => k_is)
    (case l_law_due => k_is)
    (case c_law_due => k_is)
    (case k_law_due => k_is)
    (case a_law_mix => k_is)
    (case l_law_mix => k_is)
    (case c_law_mix => k_is)
    (case k_law_mix => k_is)
    (case a_law => k_is)
    (case l_law => k_is)
    (case c_law => k_is)
    (case k_law => k_is)
    (case h_NOUGHT => k_is)
    (case m_NOUGHT => k_is)
    (case h_ONE => k_is)
    (case m_ONE => k_is)
    (case z_abs => k_is)
    (case z_dict => k_is)
    (case z_len => k_is)
    (case z_range => k_is)
    (case z_repr => k_is)
    (case z_tuple => k_is)
    (case z_zip => k_is)

