import PyProof.Rows.All
import Wide.All
import OpenK.AllK
import Wide.FinOn
import Open.SpecLaws
import KE.OsGo
import HandS.Base
import HandS.Call
import HandS.List
import HandS.Dict
import HandS.Comp
import HandS.Words
import HandS.Exc
import HandS.ExcOwn
import HandS.ExcIs
import KE.DataEq
import HandS.TupAny
import HandS.WordsExc
import HandS.Text
import HandS.Rev
import HandS.TupLe
import HandS.IsInst
import HandS.TupMul
import HandS.Iter
import HandS.Codes
import HandS.Ends
import KE.SortKeyHeap
import HandS.SortKw
import HandS.More
import HandS.Style
import PyProof.Rows.ListMulArg
import PySem.Challenge.RW_namehouse_k21_the_road
set_option Elab.async false
set_option linter.all false
set_option maxRecDepth 100000
set_option maxHeartbeats 4000000
namespace DL
open PySem PySem.Spec PyProof.Rows L2

/-! ### data -/
inductive D where
  | non | bl (b : Bool) | int (i : Int) | str (s : Str) | tup (ds : List D) | lst (ds : List D) | edict | ref (n : Nat) | exc (c : Value) | val (v : V)
instance : Inhabited D := ⟨.non⟩
/-- what a slot or a field holds -/
inductive W where
  | d (x : D) | own (ds : List D)
/-- what stands in a cell -/
inductive O where
  | lst (ds : List D) | dct (nm : List Str) (ds : List D) | ins (C : Addr) (nm : List Str) (ws : List W)
abbrev Sto := List O
abbrev Gm := List (Option W)
def slotAt : Gm → Nat → Option W
  | [], _ => none
  | x :: _, 0 => x
  | _ :: r, i + 1 => slotAt r i
def cellAt : Sto → Nat → Option O
  | [], _ => none
  | x :: _, 0 => some x
  | _ :: r, i + 1 => cellAt r i

/-- what is frozen, where the cells stand, how many -/
structure Fz where
  F : Hp
  ρ : Nat → Addr
  k : Nat
structure Fz.le (Z Z' : Fz) : Prop where
  f : ∀ a o, Z.F a = some o → Z'.F a = some o
  k : Z.k ≤ Z'.k
  r : ∀ n, n < Z.k → Z'.ρ n = Z.ρ n
theorem Fz.le.refl (Z : Fz) : Z.le Z := ⟨fun _ _ h => h, Nat.le_refl _, fun _ _ => rfl⟩
theorem Fz.le.trans {Z Z' Z'' : Fz} (a : Z.le Z') (b : Z'.le Z'') : Z.le Z'' :=
  ⟨fun x o h => b.f x o (a.f x o h), Nat.le_trans a.k b.k, fun n h => (b.r n (Nat.lt_of_lt_of_le h a.k)).trans (a.r n h)⟩

/-- an exception's object -/
def ExH (c : Value) (a : Addr) : HO := .ext fun h => ∃ (oe : Obj) (vs : Array Value), h.get? a = some oe ∧ Zc c none oe ∧ oe.data = .fields vs
/-- a value that needs no heap: a type, a class -/
def Flat : V → Prop
  | .ty _ => True
  | .ref _ => True
  | _ => False

theorem same_sqL {K : PySem.W.Frag} {H H' : Hp} {a : Addr} {xs : List V} (e : ∀ b o, H b = some o → H' b = some o) (h : SqL K H a xs) : SqL K H' a xs := by
  rcases h with (h | ⟨o, h⟩) | h
  · exact .inl (.inl (e _ _ h))
  · exact .inl (.inr ⟨o, e _ _ h⟩)
  · exact .inr h
theorem same_rd {H H' : Hp} {a : Addr} {u : HO} (e : ∀ b o, H b = some o → H' b = some o) (h : Rd H a u) : Rd H' a u := by
  rcases h with h | ⟨o, h⟩
  · exact .inl (e _ _ h)
  · exact .inr ⟨o, e _ _ h⟩
theorem same_sqT {K : PySem.W.Frag} {H H' : Hp} {a : Addr} {xs : List V} (e : ∀ b o, H b = some o → H' b = some o) (h : SqT K H a xs) : SqT K H' a xs := by
  rcases h with (h | ⟨o, h⟩) | h
  · exact .inl (.inl (e _ _ h))
  · exact .inl (.inr ⟨o, e _ _ h⟩)
  · exact .inr h

section
variable (K : PySem.W.Frag) (Z : Fz)
mutual
inductive DV : V → D → Prop
  | non : DV .non .non
  | bl (b : Bool) : DV (.bl b) (.bl b)
  | int (i : Int) : DV (.int i) (.int i)
  | str (s : Str) : DV (.str s) (.str s)
  | tup {a : Addr} {xs : List V} {ds : List D} : SqT K Z.F a xs → DVs xs ds → DV (.ref a) (.tup ds)
  | lst {a : Addr} {xs : List V} {ds : List D} : SqL K Z.F a xs → DVs xs ds → DV (.ref a) (.lst ds)
  | edict {a : Addr} : Z.F a = some (.dK []) → DV (.ref a) .edict
  | ref {n : Nat} : n < Z.k → DV (.ref (Z.ρ n)) (.ref n)
  | exc {a C : Addr} : Z.F a = some (ExH (.ref C) a) → ExcC K C → DV (.ref a) (.exc (.ref C))
  | val {v : V} : Flat v → DV v (.val v)
inductive DVs : List V → List D → Prop
  | nil : DVs [] []
  | cons {v : V} {vs : List V} {d : D} {ds : List D} : DV v d → DVs vs ds → DVs (v :: vs) (d :: ds)
end
end
mutual
theorem DV.mono {K : PySem.W.Frag} {Z Z' : Fz} (e : Z.le Z') : ∀ {v : V} {d : D}, DV K Z v d → DV K Z' v d
  | _, _, .non => .non
  | _, _, .bl b => .bl b
  | _, _, .int i => .int i
  | _, _, .str s => .str s
  | _, _, .tup h q => .tup (same_sqT e.f h) (DVs.mono e q)
  | _, _, .lst h q => .lst (same_sqL e.f h) (DVs.mono e q)
  | _, _, .edict h => .edict (e.f _ _ h)
  | _, _, .ref (n := n) h => by
    have r := e.r n h
    rw [← r]
    exact .ref (Nat.lt_of_lt_of_le h e.k)
  | _, _, .exc h k => .exc (e.f _ _ h) k
  | _, _, .val h => .val h
theorem DVs.mono {K : PySem.W.Frag} {Z Z' : Fz} (e : Z.le Z') : ∀ {vs : List V} {ds : List D}, DVs K Z vs ds → DVs K Z' vs ds
  | _, _, .nil => .nil
  | _, _, .cons h q => .cons (DV.mono e h) (DVs.mono e q)
end
section
variable {K : PySem.W.Frag} {Z Z' : Fz}
theorem DVs.length : ∀ {vs : List V} {ds : List D}, DVs K Z vs ds → vs.length = ds.length
  | _, _, .nil => rfl
  | _, _, .cons _ q => by rw [List.length_cons, List.length_cons, DVs.length q]
theorem DVs.append : ∀ {vs us : List V} {ds es : List D}, DVs K Z vs ds → DVs K Z us es → DVs K Z (vs ++ us) (ds ++ es)
  | _, _, _, _, .nil, r => r
  | _, _, _, _, .cons h q, r => .cons h (DVs.append q r)
theorem DVs.take : ∀ {vs : List V} {ds : List D} (n : Nat), DVs K Z vs ds → DVs K Z (vs.take n) (ds.take n)
  | _, _, 0, _ => .nil
  | _, _, _ + 1, .nil => .nil
  | _, _, n + 1, .cons h q => .cons h (DVs.take n q)
theorem DVs.drop : ∀ {vs : List V} {ds : List D} (n : Nat), DVs K Z vs ds → DVs K Z (vs.drop n) (ds.drop n)
  | _, _, 0, q => q
  | _, _, _ + 1, .nil => .nil
  | _, _, n + 1, .cons _ q => DVs.drop n q
theorem DVs.get : ∀ {vs : List V} {ds : List D} {i : Nat} {v : V}, DVs K Z vs ds → vs[i]? = some v → ∃ d, ds[i]? = some d ∧ DV K Z v d
  | _, _, _, _, .nil, e => by simp at e
  | _, _, 0, _, .cons h _, e => by simp at e; subst e; exact ⟨_, rfl, h⟩
  | _, _, i + 1, v, .cons _ q, e => by
    obtain ⟨d, h1, h2⟩ := DVs.get (i := i) (v := v) q (by simpa using e)
    exact ⟨d, by simpa using h1, h2⟩
theorem DVs.getD : ∀ {vs : List V} {ds : List D} {i : Nat} {d : D}, DVs K Z vs ds → ds[i]? = some d → ∃ v, vs[i]? = some v ∧ DV K Z v d
  | _, _, _, _, .nil, e => by simp at e
  | _, _, 0, _, .cons h _, e => by simp at e; subst e; exact ⟨_, rfl, h⟩
  | _, _, i + 1, v, .cons _ q, e => by
    obtain ⟨d, h1, h2⟩ := DVs.getD (i := i) (d := v) q (by simpa using e)
    exact ⟨d, by simpa using h1, h2⟩
theorem DVs.set : ∀ {vs : List V} {ds : List D} (i : Nat) {v : V} {d : D}, DVs K Z vs ds → DV K Z v d → DVs K Z (vs.set i v) (ds.set i d)
  | _, _, _, _, _, .nil, _ => .nil
  | _, _, 0, _, _, .cons _ q, r => .cons r q
  | _, _, i + 1, _, _, .cons h q, r => .cons h (DVs.set i q r)
theorem DVs.reverse : ∀ {vs : List V} {ds : List D}, DVs K Z vs ds → DVs K Z vs.reverse ds.reverse
  | _, _, .nil => .nil
  | _, _, .cons h q => by
    rw [List.reverse_cons, List.reverse_cons]
    exact DVs.append (DVs.reverse q) (.cons h .nil)
theorem DVs.replicate {v : V} {d : D} (h : DV K Z v d) : ∀ n, DVs K Z (List.replicate n v) (List.replicate n d)
  | 0 => .nil
  | n + 1 => .cons h (DVs.replicate h n)
theorem DVs.ints : ∀ ns : List Int, DVs K Z (ns.map V.int) (ns.map D.int)
  | [] => .nil
  | n :: ns => .cons (.int n) (DVs.ints ns)
theorem DVs.strs : ∀ ns : List Str, DVs K Z (ns.map V.str) (ns.map D.str)
  | [] => .nil
  | n :: ns => .cons (.str n) (DVs.strs ns)
theorem DVs.of_strs : ∀ {ns : List Str} {vs : List V}, DVs K Z vs (ns.map D.str) → vs = ns.map V.str
  | [], _, .nil => rfl
  | n :: ns, _, .cons h q => by
    cases h
    rw [DVs.of_strs q]
    rfl
theorem DVs.of_ints : ∀ {ns : List Int} {vs : List V}, DVs K Z vs (ns.map D.int) → vs = ns.map V.int
  | [], _, .nil => rfl
  | n :: ns, _, .cons h q => by
    cases h
    rw [DVs.of_ints q]
    rfl
theorem DVs.of_bls : ∀ {ns : List Bool} {vs : List V}, DVs K Z vs (ns.map D.bl) → vs = ns.map V.bl
  | [], _, .nil => rfl
  | n :: ns, _, .cons h q => by
    cases h
    rw [DVs.of_bls q]
    rfl
end

/-! ### slots, fields, cells -/
section
variable (K : PySem.W.Frag) (Z : Fz) (H : Hp)
inductive WR : V → W → List Addr → Prop
  | d {v : V} {x : D} : DV K Z v x → WR v (.d x) []
  | own {a : Addr} {xs : List V} {ds : List D} : H a = some (.lst xs) → DVs K Z xs ds → WR (.ref a) (.own ds) [a]
inductive FsR : List Str → List (Str × V) → List W → List Addr → Prop
  | nil : FsR [] [] [] []
  | cons {f : Str} {v : V} {w : W} {as bs : List Addr} {nm : List Str} {r : List (Str × V)} {r' : List W} : WR K Z H v w as → FsR nm r r' bs → FsR (f :: nm) ((f, v) :: r) (w :: r') (as ++ bs)
inductive KvR : List Str → List (Key × V) → List D → Prop
  | nil : KvR [] [] []
  | cons {k : Str} {v : V} {d : D} {nm : List Str} {r : List (Key × V)} {r' : List D} : DV K Z v d → KvR nm r r' → KvR (k :: nm) ((.inr k, v) :: r) (d :: r')
inductive OR : Addr → O → List Addr → Prop
  | lst {a : Addr} {xs : List V} {ds : List D} : H a = some (.lst xs) → DVs K Z xs ds → OR a (.lst ds) [a]
  | dct {a : Addr} {nm : List Str} {kvs : List (Key × V)} {ds : List D} : H a = some (.dK kvs) → KvR K Z nm kvs ds → OR a (.dct nm ds) [a]
  | ins {a C dx : Addr} {nm : List Str} {fs : List (Str × V)} {ws : List W} {as : List Addr} : H a = some (.ins C dx fs) → FsR K Z H nm fs ws as → OR a (.ins C nm ws) (a :: as)
inductive SR : Nat → Sto → List Addr → Prop
  | nil {i : Nat} : SR i [] []
  | cons {i : Nat} {o : O} {S : Sto} {as bs : List Addr} : OR K Z H (Z.ρ i) o as → SR (i + 1) S bs → SR i (o :: S) (as ++ bs)
inductive GR : L2.St → Gm → List Addr → Prop
  | nil : GR [] [] []
  | gn {v : Option V} {σ : L2.St} {Γ : Gm} {as : List Addr} : GR σ Γ as → GR (v :: σ) (none :: Γ) as
  | gs {v : V} {w : W} {σ : L2.St} {Γ : Gm} {as bs : List Addr} : WR K Z H v w as → GR σ Γ bs → GR (some v :: σ) (some w :: Γ) (as ++ bs)
end
section
variable {K : PySem.W.Frag} {Z Z' : Fz} {H H' : Hp}
/-- the owned ones are as they were -/
theorem WR.mono (e : Z.le Z') {v : V} {w : W} {as : List Addr} (k : ∀ a ∈ as, ∀ o, H a = some o → H' a = some o) : WR K Z H v w as → WR K Z' H' v w as
  | .d h => .d (h.mono e)
  | .own h q => .own (k _ (List.mem_singleton.mpr rfl) _ h) (q.mono e)
theorem FsR.mono (e : Z.le Z') : ∀ {nm : List Str} {fs : List (Str × V)} {fs' : List W} {as : List Addr}, (∀ a ∈ as, ∀ o, H a = some o → H' a = some o) → FsR K Z H nm fs fs' as → FsR K Z' H' nm fs fs' as
  | _, _, _, _, _, .nil => .nil
  | _, _, _, _, k, .cons h q => .cons (h.mono e fun a m => k a (List.mem_append_left _ m)) (FsR.mono e (fun a m => k a (List.mem_append_right _ m)) q)
theorem KvR.mono (e : Z.le Z') : ∀ {nm : List Str} {kvs : List (Key × V)} {kds : List D}, KvR K Z nm kvs kds → KvR K Z' nm kvs kds
  | _, _, _, .nil => .nil
  | _, _, _, .cons h q => .cons (h.mono e) (KvR.mono e q)
theorem OR.mono (e : Z.le Z') {a : Addr} {o : O} {as : List Addr} (k : ∀ a ∈ as, ∀ o, H a = some o → H' a = some o) : OR K Z H a o as → OR K Z' H' a o as
  | .lst h q => .lst (k _ (List.mem_singleton.mpr rfl) _ h) (q.mono e)
  | .dct h q => .dct (k _ (List.mem_singleton.mpr rfl) _ h) (q.mono e)
  | .ins h q => .ins (k _ List.mem_cons_self _ h) (q.mono e fun a m => k a (List.mem_cons_of_mem _ m))
theorem SR.mono (e : Z.le Z') : ∀ {i : Nat} {S : Sto} {as : List Addr}, i + S.length ≤ Z.k → (∀ a ∈ as, ∀ o, H a = some o → H' a = some o) → SR K Z H i S as → SR K Z' H' i S as
  | i, [], _, _, _, h => by
    cases h
    exact .nil
  | i, o :: S, _, l, k, h => by
    cases h with
    | cons h q =>
      rw [List.length_cons] at l
      have r := e.r i (by omega)
      refine .cons ?_ (SR.mono e (by omega) (fun a m => k a (List.mem_append_right _ m)) q)
      rw [r]
      exact h.mono e fun a m => k a (List.mem_append_left _ m)
theorem GR.mono (e : Z.le Z') : ∀ {σ : L2.St} {Γ : Gm} {as : List Addr}, (∀ a ∈ as, ∀ o, H a = some o → H' a = some o) → GR K Z H σ Γ as → GR K Z' H' σ Γ as
  | _, _, _, _, .nil => .nil
  | _, _, _, k, .gn q => .gn (GR.mono e k q)
  | _, _, _, k, .gs h q => .gs (h.mono e fun a m => k a (List.mem_append_left _ m)) (GR.mono e (fun a m => k a (List.mem_append_right _ m)) q)
theorem GR.length : ∀ {σ : L2.St} {Γ : Gm} {as : List Addr}, GR K Z H σ Γ as → σ.length = Γ.length
  | _, _, _, .nil => rfl
  | _, _, _, .gn q => by rw [List.length_cons, List.length_cons, GR.length q]
  | _, _, _, .gs _ q => by rw [List.length_cons, List.length_cons, GR.length q]
end

/-! ### the state -/
/-- what stood at the def's entry -/
structure Bs where
  Z : Fz
  H : Hp
  fp : List Addr
  Zf : Fz
structure Ext (B : Bs) (Z : Fz) (H : Hp) (own : List Addr) : Prop where
  le : B.Z.le Z
  fl : B.Zf.le Z
  keep : ∀ a o, B.H a = some o → a ∉ B.fp → H a = some o
  there : ∀ a, H a = none → B.H a = none
  new : ∀ a ∈ own, a ∈ B.fp ∨ B.H a = none
  frz : ∀ a, B.Z.F a = none → Z.F a ≠ none → B.H a = none ∨ a ∈ B.fp
structure R (K : PySem.W.Frag) (B : Bs) (Z : Fz) (S : Sto) (Γ : Gm) (σ : L2.St) (H : Hp) (fp ofp : List Addr) : Prop where
  kk : Z.k = S.length
  fr : ∀ a o, Z.F a = some o → H a = some o
  st : SR K Z H 0 S fp
  gm : GR K Z H σ Γ ofp
  nd : (fp ++ ofp).Nodup
  nf : ∀ a ∈ fp ++ ofp, Z.F a = none
  ext : Ext B Z H (fp ++ ofp)
  of : ∀ a ∈ ofp, B.H a = none

/-! ### what goes on behind: more is frozen, nothing but the cells changes -/
structure Up (Z : Fz) (H : Hp) (fp : List Addr) (Z' : Fz) (H' : Hp) (fp' : List Addr) : Prop where
  le : Z.le Z'
  keep : ∀ a o, H a = some o → a ∉ fp → H' a = some o
  new : ∀ a ∈ fp', a ∈ fp ∨ H a = none
  there : ∀ a, H' a = none → H a = none
  frz : ∀ a, Z.F a = none → Z'.F a ≠ none → H a = none ∨ a ∈ fp
theorem Up.refl (Z : Fz) (H : Hp) (fp : List Addr) : Up Z H fp Z H fp := ⟨.refl _, fun _ _ h _ => h, fun _ h => .inl h, fun _ h => h, fun _ h n => absurd h n⟩
theorem Up.trans {Z Z1 Z2 : Fz} {H H1 H2 : Hp} {fp fp1 fp2 : List Addr} (a : Up Z H fp Z1 H1 fp1) (b : Up Z1 H1 fp1 Z2 H2 fp2) : Up Z H fp Z2 H2 fp2 := by
  refine ⟨a.le.trans b.le, fun x o h n => b.keep x o (a.keep x o h n) fun m => ?_, fun x m => ?_, fun x h => a.there x (b.there x h), fun x h n => ?_⟩
  · rcases a.new x m with z | z
    · exact n z
    · rw [z] at h
      cases h
  · rcases b.new x m with z | z
    · exact a.new x z
    · exact .inr (a.there x z)
  · by_cases h1 : Z1.F x = none
    · rcases b.frz x h1 n with z | z
      · exact .inl (a.there x z)
      · exact (a.new x z).symm
    · exact a.frz x h h1

/-! ### readings -/
abbrev DE := Gm → Sto → (D → Sto → Prop) → Prop
abbrev DT := Gm → Sto → (Bool → Sto → Prop) → Prop
abbrev DA := Gm → Sto → (List D → Sto → Prop) → Prop
structure DEnds where
  nx : Gm → Sto → Prop
  rt : W → Sto → Prop
  bk : Gm → Sto → Prop := fun _ _ => False
  ct : Gm → Sto → Prop := fun _ _ => False
abbrev DS := DEnds → Gm → Sto → Prop

theorem DV.up {K : PySem.W.Frag} {Z Z' : Fz} {H H' : Hp} {fp fp' : List Addr} {v : V} {d : D} (h : DV K Z v d) (u : Up Z H fp Z' H' fp') : DV K Z' v d := h.mono u.le
theorem DVs.up {K : PySem.W.Frag} {Z Z' : Fz} {H H' : Hp} {fp fp' : List Addr} {v : List V} {d : List D} (h : DVs K Z v d) (u : Up Z H fp Z' H' fp') : DVs K Z' v d := h.mono u.le
/-- a value, or an owned list of a slot, read -/
def BV (K : PySem.W.Frag) (Z : Fz) (σ : L2.St) (Γ : Gm) (v : V) (d : D) : Prop :=
  DV K Z v d ∨ ∃ (i : Nat) (ds : List D), σ[i]? = some (some v) ∧ slotAt Γ i = some (.own ds) ∧ d = .lst ds
section
variable (K : PySem.W.Frag) (B : Bs)
def liftD (te : DE) : TE := fun σ H Q => ∃ Z S Γ fp ofp P, R K B Z S Γ σ H fp ofp ∧ te Γ S P ∧
  ∀ d S', P d S' → ∀ Z' H' fp' v, R K B Z' S' Γ σ H' fp' ofp → Up Z H fp Z' H' fp' → DV K Z' v d → Q v H'
def liftB (te : DE) : TE := fun σ H Q => ∃ Z S Γ fp ofp P, R K B Z S Γ σ H fp ofp ∧ te Γ S P ∧
  ∀ d S', P d S' → ∀ Z' H' fp' v, R K B Z' S' Γ σ H' fp' ofp → Up Z H fp Z' H' fp' → BV K Z' σ Γ v d → Q v H'
def liftO (te : DA) : TE := fun σ H Q => ∃ Z S Γ fp ofp P, R K B Z S Γ σ H fp ofp ∧ te Γ S P ∧
  ∀ ds S', P ds S' → ∀ Z' H' fp' a xs, R K B Z' S' Γ σ H' fp' ofp → Up Z H fp Z' H' fp' → H' a = some (.lst xs) → DVs K Z' xs ds → Z'.F a = none → a ∉ fp' → a ∉ ofp → H a = none → Q (.ref a) H'
def liftT (te : DT) : TT := fun σ H Q => ∃ Z S Γ fp ofp P, R K B Z S Γ σ H fp ofp ∧ te Γ S P ∧
  ∀ b S', P b S' → ∀ Z' H' fp', R K B Z' S' Γ σ H' fp' ofp → Up Z H fp Z' H' fp' → Q b H'
def liftA (te : DA) : TA := fun σ H Q => ∃ Z S Γ fp ofp P, R K B Z S Γ σ H fp ofp ∧ te Γ S P ∧
  ∀ ds S', P ds S' → ∀ Z' H' fp' vs, R K B Z' S' Γ σ H' fp' ofp → Up Z H fp Z' H' fp' → DVs K Z' vs ds → Q vs H'
/-- what is handed back -/
def WRet (Z : Fz) (H : Hp) (fp : List Addr) : V → W → Prop
  | v, .d x => DV K Z v x
  | v, .own ds => ∃ a xs, v = .ref a ∧ H a = some (.lst xs) ∧ DVs K Z xs ds ∧ Z.F a = none ∧ a ∉ fp ∧ B.H a = none
structure EndsOk (DD : DEnds) (Dn : Ends) : Prop where
  nx : ∀ Z S Γ σ H fp ofp, R K B Z S Γ σ H fp ofp → DD.nx Γ S → Dn.nx σ H
  bk : ∀ Z S Γ σ H fp ofp, R K B Z S Γ σ H fp ofp → DD.bk Γ S → Dn.bk σ H
  ct : ∀ Z S Γ σ H fp ofp, R K B Z S Γ σ H fp ofp → DD.ct Γ S → Dn.ct σ H
  rt : ∀ Z S Γ σ H fp ofp w v, R K B Z S Γ σ H fp ofp → WRet K B Z H fp v w → DD.rt w S → Dn.rt v H
def liftS (ts : DS) : TS := fun Dn σ H => ∃ Z S Γ fp ofp DD, R K B Z S Γ σ H fp ofp ∧ ts DD Γ S ∧ EndsOk K B DD Dn
end
/-- the same base, from later on -/
def Bs.at (B : Bs) (Z : Fz) : Bs := { B with Zf := Z }
structure Bs.up (B B' : Bs) : Prop where
  z : B'.Z = B.Z
  h : B'.H = B.H
  fp : B'.fp = B.fp
  le : B.Zf.le B'.Zf
theorem Bs.at_up {B : Bs} {Z : Fz} (l : B.Zf.le Z) : B.up (B.at Z) := ⟨rfl, rfl, rfl, l⟩
theorem R.lower {K : PySem.W.Frag} {B B' : Bs} {Z : Fz} {S : Sto} {Γ : Gm} {σ : L2.St} {H : Hp} {fp ofp : List Addr} (u : B.up B') (r : R K B' Z S Γ σ H fp ofp) : R K B Z S Γ σ H fp ofp := by
  obtain ⟨z, h, f, l⟩ := u
  obtain ⟨Z0, H0, fp0, Zf⟩ := B
  obtain ⟨Z0', H0', fp0', Zf'⟩ := B'
  dsimp only at z h f l
  subst z h f
  exact ⟨r.kk, r.fr, r.st, r.gm, r.nd, r.nf, ⟨r.ext.le, l.trans r.ext.fl, r.ext.keep, r.ext.there, r.ext.new, r.ext.frz⟩, r.of⟩
theorem R.raise {K : PySem.W.Frag} {B : Bs} {Z Z1 : Fz} {S : Sto} {Γ : Gm} {σ : L2.St} {H : Hp} {fp ofp : List Addr} (r : R K B Z S Γ σ H fp ofp) (l : Z1.le Z) : R K (B.at Z1) Z S Γ σ H fp ofp :=
  ⟨r.kk, r.fr, r.st, r.gm, r.nd, r.nf, ⟨r.ext.le, l, r.ext.keep, r.ext.there, r.ext.new, r.ext.frz⟩, r.of⟩

/-! ### judgements -/
theorem PE.weak {X : Cx} {e : Expr} {t t' : TE} (h : PE X e t) (k : ∀ σ H Q, t' σ H Q → t σ H Q) : PE X e t' := ⟨fun pins s σ H Q I q => h.run pins s σ H Q I (k _ _ _ q)⟩
theorem PT.weak {X : Cx} {e : Expr} {t t' : TT} (h : PT X e t) (k : ∀ σ H Q, t' σ H Q → t σ H Q) : PT X e t' := ⟨fun pins s σ H Q I q => h.run pins s σ H Q I (k _ _ _ q)⟩
theorem PA.weak {X : Cx} {es : List Expr} {t t' : TA} (h : PA X es t) (k : ∀ σ H Q, t' σ H Q → t σ H Q) : PA X es t' := ⟨fun pos pins s σ H Q I q => h.run pos pins s σ H Q I (k _ _ _ q)⟩
theorem PS.weak {X : Cx} {st : Stmt} {t t' : TS} (h : PS X st t) (k : ∀ D σ H, t' D σ H → t D σ H) : PS X st t' := ⟨fun pins s σ H D I q => h.run pins s σ H D I (k _ _ _ q)⟩
theorem PSs.weak {X : Cx} {st : List Stmt} {t t' : TS} (h : PSs X st t) (k : ∀ D σ H, t' D σ H → t D σ H) : PSs X st t' := ⟨fun pins s σ H D I q => h.run pins s σ H D I (k _ _ _ q)⟩
abbrev PD (X : Cx) (B : Bs) (e : Expr) (te : DE) : Prop := PE X e (liftD X.K B te)
abbrev PB (X : Cx) (B : Bs) (e : Expr) (te : DE) : Prop := PE X e (liftB X.K B te)
abbrev PF (X : Cx) (B : Bs) (e : Expr) (te : DA) : Prop := PE X e (liftO X.K B te)
abbrev PTD (X : Cx) (B : Bs) (e : Expr) (te : DT) : Prop := PT X e (liftT X.K B te)
abbrev PAD (X : Cx) (B : Bs) (es : List Expr) (te : DA) : Prop := PA X es (liftA X.K B te)
abbrev PSD (X : Cx) (B : Bs) (st : Stmt) (ts : DS) : Prop := PS X st (liftS X.K B ts)
abbrev PSsD (X : Cx) (B : Bs) (st : List Stmt) (ts : DS) : Prop := PSs X st (liftS X.K B ts)
end DL
namespace DL
open PySem PySem.Spec PyProof.Rows L2
section
variable {K : PySem.W.Frag} {Z Z' : Fz} {H H' : Hp}
/-! ### the owned ones stand -/
theorem WR.there {v : V} {w : W} {as : List Addr} : WR K Z H v w as → ∀ a ∈ as, ∃ o, H a = some o
  | .d _ => fun a m => by cases m
  | .own h _ => fun a m => by
    rw [List.mem_singleton.mp m]
    exact ⟨_, h⟩
theorem FsR.there : ∀ {nm : List Str} {fs : List (Str × V)} {fs' : List W} {as : List Addr}, FsR K Z H nm fs fs' as → ∀ a ∈ as, ∃ o, H a = some o
  | _, _, _, _, .nil => fun a m => by cases m
  | _, _, _, _, .cons h q => fun a m => (List.mem_append.mp m).elim (h.there a) (FsR.there q a)
theorem OR.there {a : Addr} {o : O} {as : List Addr} : OR K Z H a o as → ∀ a ∈ as, ∃ o, H a = some o
  | .lst h _ => fun a m => by
    rw [List.mem_singleton.mp m]
    exact ⟨_, h⟩
  | .dct h _ => fun a m => by
    rw [List.mem_singleton.mp m]
    exact ⟨_, h⟩
  | .ins h q => fun a m => (List.mem_cons.mp m).elim (fun e => e ▸ ⟨_, h⟩) (q.there a)
theorem SR.there : ∀ {i : Nat} {S : Sto} {as : List Addr}, SR K Z H i S as → ∀ a ∈ as, ∃ o, H a = some o
  | _, [], _, h => by
    cases h
    exact fun a m => by cases m
  | i, o :: S, _, h => by
    cases h with
    | cons h q => exact fun a m => (List.mem_append.mp m).elim (h.there a) (SR.there q a)
theorem GR.there : ∀ {σ : L2.St} {Γ : Gm} {as : List Addr}, GR K Z H σ Γ as → ∀ a ∈ as, ∃ o, H a = some o
  | _, _, _, .nil => fun a m => by cases m
  | _, _, _, .gn q => GR.there q
  | _, _, _, .gs h q => fun a m => (List.mem_append.mp m).elim (h.there a) (GR.there q a)
theorem GR.get : ∀ {σ : L2.St} {Γ : Gm} {as : List Addr} {i : Nat} {w : W}, GR K Z H σ Γ as → slotAt Γ i = some w → ∃ v bs, σ[i]? = some (some v) ∧ WR K Z H v w bs ∧ ∀ a ∈ bs, a ∈ as
  | _, _, _, _, _, .nil, e => by cases e
  | _, _, _, 0, _, .gn _, e => by cases e
  | _, _, _, i + 1, _, .gn q, e => by
    obtain ⟨v, bs, h1, h2, h3⟩ := GR.get (i := i) q e
    exact ⟨v, bs, by simpa using h1, h2, h3⟩
  | _, _, _, 0, _, .gs h _, e => by
    cases e
    exact ⟨_, _, rfl, h, fun a m => List.mem_append_left _ m⟩
  | _, _, _, i + 1, _, .gs _ q, e => by
    obtain ⟨v, bs, h1, h2, h3⟩ := GR.get (i := i) q e
    exact ⟨v, bs, by simpa using h1, h2, fun a m => List.mem_append_right _ (h3 a m)⟩
/-- a slot stored anew -/
theorem GR.set : ∀ {σ : L2.St} {Γ : Gm} {as bs : List Addr} {v : V} {w : W} (i : Nat), GR K Z H σ Γ as → WR K Z H v w bs →
    ∃ l m r, as = l ++ m ++ r ∧ ∃ cs, (cs = bs ∨ cs = []) ∧ GR K Z H (σ.set i (some v)) (Γ.set i (some w)) (l ++ cs ++ r)
  | _, _, _, _, _, _, _, .nil, _ => ⟨[], [], [], rfl, [], .inr rfl, .nil⟩
  | _, _, _, bs, _, _, 0, .gn q, h => ⟨[], [], _, by simp, bs, .inl rfl, .gs h q⟩
  | _, _, _, bs, _, _, 0, .gs _ q, h => ⟨[], _, _, by rw [List.nil_append], bs, .inl rfl, by rw [List.nil_append]; exact .gs h q⟩
  | _, _, _, _, _, _, i + 1, .gn q, h => by
    obtain ⟨l, m, r, e, cs, hc, g⟩ := GR.set i q h
    exact ⟨l, m, r, e, cs, hc, .gn g⟩
  | _, _, _, _, _, _, i + 1, .gs (as := as1) h1 q, h => by
    obtain ⟨l, m, r, e, cs, hc, g⟩ := GR.set i q h
    refine ⟨as1 ++ l, m, r, by rw [e]; simp [List.append_assoc], cs, hc, ?_⟩
    have g2 := GR.gs h1 g
    simpa [List.append_assoc] using g2
/-- a slot forgotten -/
theorem GR.del : ∀ {σ : L2.St} {Γ : Gm} {as : List Addr} (i : Nat) (v : Option V), GR K Z H σ Γ as →
    ∃ l m r, as = l ++ m ++ r ∧ GR K Z H (σ.set i v) (Γ.set i none) (l ++ r)
  | _, _, _, _, _, .nil => ⟨[], [], [], rfl, .nil⟩
  | _, _, _, 0, _, .gn q => ⟨[], [], _, by simp, .gn q⟩
  | _, _, _, 0, _, .gs _ q => ⟨[], _, _, by rw [List.nil_append], .gn q⟩
  | _, _, _, i + 1, v, .gn q => by
    obtain ⟨l, m, r, e, g⟩ := GR.del i v q
    exact ⟨l, m, r, e, .gn g⟩
  | _, _, _, i + 1, v, .gs (as := as1) h1 q => by
    obtain ⟨l, m, r, e, g⟩ := GR.del i v q
    refine ⟨as1 ++ l, m, r, by rw [e]; simp [List.append_assoc], ?_⟩
    have g2 := GR.gs h1 g
    simpa [List.append_assoc] using g2
end

section
variable {K : PySem.W.Frag} {B : Bs} {Z Z' : Fz} {S : Sto} {Γ : Gm} {σ : L2.St} {H H' : Hp} {fp ofp : List Addr}
theorem R.ownThere (r : R K B Z S Γ σ H fp ofp) : ∀ a ∈ fp ++ ofp, ∃ o, H a = some o := fun a m => (List.mem_append.mp m).elim (r.st.there a) (r.gm.there a)
theorem R.fresh (r : R K B Z S Γ σ H fp ofp) {p : Addr} (h : H p = none) : p ∉ fp ∧ p ∉ ofp ∧ Z.F p = none ∧ B.H p = none := by
  have q : p ∉ fp ++ ofp := fun m => by
    obtain ⟨o, e⟩ := r.ownThere p m
    rw [h] at e
    cases e
  refine ⟨fun m => q (List.mem_append_left _ m), fun m => q (List.mem_append_right _ m), ?_, r.ext.there p h⟩
  cases e : Z.F p with
  | none => rfl
  | some o =>
    rw [r.fr p o e] at h
    cases h
theorem le_frz {a : Addr} {o : HO} (h : Z.F a = none) : Z.le { Z with F := upd Z.F a o } := ⟨fun b u e => by
  show upd Z.F a o b = some u
  rw [upd_ne (ne_of_none e h)]
  exact e, Nat.le_refl _, fun _ _ => rfl⟩
/-- what stands and isn't owned is frozen -/
theorem R.freeze (r : R K B Z S Γ σ H fp ofp) {a : Addr} {o : HO} (h : H a = some o) (hf : Z.F a = none) (h1 : a ∉ fp) (h2 : a ∉ ofp) (hb : B.H a = none) :
    R K B { Z with F := upd Z.F a o } S Γ σ H fp ofp := by
  have le := le_frz (o := o) hf
  refine ⟨r.kk, fun b u e => ?_, r.st.mono le (by have := r.kk; omega) fun _ _ _ e => e, r.gm.mono le fun _ _ _ e => e, r.nd, fun b m => ?_, ⟨r.ext.le.trans le, r.ext.fl.trans le, r.ext.keep, r.ext.there, r.ext.new, fun b q n => ?_⟩, r.of⟩
  · have e' : upd Z.F a o b = some u := e
    by_cases hb : b = a
    · subst hb
      rw [upd_same] at e'
      cases e'
      exact h
    · rw [upd_ne hb] at e'
      exact r.fr b u e'
  · have nb : b ≠ a := fun z => by
      subst z
      exact (List.mem_append.mp m).elim h1 h2
    show upd Z.F a o b = none
    rw [upd_ne nb]
    exact r.nf b m
  · by_cases e : b = a
    · subst e
      exact .inl hb
    · refine r.ext.frz b q fun z => n ?_
      show upd Z.F a o b = none
      rw [upd_ne e]
      exact z
/-- the heap has one thing more, or one that isn't owned is another -/
theorem R.grow (r : R K B Z S Γ σ H fp ofp) {p : Addr} {o : HO} (h : H p = none) : R K B Z S Γ σ (upd H p o) fp ofp := by
  obtain ⟨q1, q2, q3, q4⟩ := r.fresh h
  have ks : ∀ a u, H a = some u → upd H p o a = some u := fun a u e => by
    rw [upd_ne (ne_of_none e h)]
    exact e
  refine ⟨r.kk, fun b u e => ks _ _ (r.fr b u e), r.st.mono (Fz.le.refl _) (by have := r.kk; omega) fun a _ u e => ks a u e, r.gm.mono (Fz.le.refl _) fun a _ u e => ks a u e, r.nd, r.nf,
    ⟨r.ext.le, r.ext.fl, fun a u e n => ks _ _ (r.ext.keep a u e n), fun a e => ?_, r.ext.new, r.ext.frz⟩, r.of⟩
  by_cases z : a = p
  · rw [z]
    exact q4
  · rw [upd_ne z] at e
    exact r.ext.there a e
theorem R.growF (r : R K B Z S Γ σ H fp ofp) {p : Addr} {o : HO} (h : H p = none) : R K B { Z with F := upd Z.F p o } S Γ σ (upd H p o) fp ofp := by
  obtain ⟨q1, q2, q3, q4⟩ := r.fresh h
  exact (r.grow h).freeze upd_same q3 q1 q2 q4
theorem R.leF (r : R K B Z S Γ σ H fp ofp) {p : Addr} {o : HO} (h : H p = none) : Z.le { Z with F := upd Z.F p o } := le_frz (r.fresh h).2.2.1
theorem Up.grow {p : Addr} {o : HO} (h : H p = none) : Up Z H fp Z (upd H p o) fp := ⟨.refl _, fun a u e _ => by
  rw [upd_ne (ne_of_none e h)]
  exact e, fun _ m => .inl m, fun a e => by
  by_cases z : a = p
  · rw [z]
    exact h
  · rw [upd_ne z] at e
    exact e, fun _ h n => absurd h n⟩
/-- .. and frozen -/
theorem Up.addF {Z1 : Fz} {H1 : Hp} {fp1 : List Addr} {p : Addr} {o : HO} (u : Up Z H fp Z1 H1 fp1) (h : H p = none) (hf : Z1.F p = none) : Up Z H fp { Z1 with F := upd Z1.F p o } H1 fp1 := ⟨u.le.trans (le_frz hf), u.keep, u.new, u.there, fun a e n => by
  by_cases z : a = p
  · rw [z]
    exact .inl h
  · refine u.frz a e fun q => n ?_
    show upd Z1.F p o a = none
    rw [upd_ne z]
    exact q⟩
theorem R.upF (r : R K B Z S Γ σ H fp ofp) {p : Addr} {o : HO} (h : H p = none) : Up Z H fp { Z with F := upd Z.F p o } (upd H p o) fp := (Up.grow h).addF h (r.fresh h).2.2.1
theorem R.up0 (r : R K B Z S Γ σ H fp ofp) {p : Addr} {o : HO} (h : H p = none) : Up Z H fp Z (upd H p o) fp := Up.grow h
theorem nodup_mid {l m r fp : List Addr} (h : (fp ++ (l ++ m ++ r)).Nodup) : (fp ++ (l ++ r)).Nodup := by
  refine h.sublist ?_
  refine (List.Sublist.refl fp).append ?_
  rw [List.append_assoc]
  exact (List.Sublist.refl l).append (List.sublist_append_right m r)
theorem nodup_mid1 {l m r fp : List Addr} {a : Addr} (h : (fp ++ (l ++ m ++ r)).Nodup) (h1 : a ∉ fp) (h2 : a ∉ l ++ m ++ r) : (fp ++ (l ++ [a] ++ r)).Nodup := by
  have h0 := nodup_mid h
  have ha : a ∉ fp ++ (l ++ r) := fun z => by
    rcases List.mem_append.mp z with z | z
    · exact h1 z
    · refine h2 ?_
      rcases List.mem_append.mp z with z | z
      · exact List.mem_append_left _ (List.mem_append_left _ z)
      · exact List.mem_append_right _ z
  have p : (fp ++ (l ++ [a] ++ r)).Perm (a :: (fp ++ (l ++ r))) := by
    have e1 : fp ++ (l ++ [a] ++ r) = (fp ++ l) ++ a :: r := by simp [List.append_assoc]
    have e2 : fp ++ (l ++ r) = (fp ++ l) ++ r := by simp [List.append_assoc]
    rw [e1, e2]
    exact List.perm_middle
  exact (p.nodup_iff).mpr (List.nodup_cons.mpr ⟨ha, h0⟩)
theorem R.setD (r : R K B Z S Γ σ H fp ofp) (i : Nat) {v : V} {x : D} (h : DV K Z v x) : ∃ ofp', R K B Z S (Γ.set i (some (.d x))) (σ.set i (some v)) H fp ofp' ∧ ∀ a ∈ ofp', a ∈ ofp := by
  obtain ⟨l, m, rr, e, cs, hc, g⟩ := r.gm.set i (WR.d (H := H) h)
  have hc' : cs = [] := hc.elim id id
  subst hc'
  subst e
  rw [List.append_nil] at g
  have sub : ∀ a, a ∈ fp ++ (l ++ rr) → a ∈ fp ++ (l ++ m ++ rr) := fun a z => by
    simp only [List.mem_append] at z ⊢
    rcases z with z | z | z
    · exact .inl z
    · exact .inr (.inl (.inl z))
    · exact .inr (.inr z)
  have sub2 : ∀ a, a ∈ l ++ rr → a ∈ l ++ m ++ rr := fun a z => by
    simp only [List.mem_append] at z ⊢
    rcases z with z | z
    · exact .inl (.inl z)
    · exact .inr z
  exact ⟨l ++ rr, ⟨r.kk, r.fr, r.st, g, nodup_mid r.nd, fun a z => r.nf a (sub a z), ⟨r.ext.le, r.ext.fl, r.ext.keep, r.ext.there, fun a z => r.ext.new a (sub a z), r.ext.frz⟩, fun a z => r.of a (sub2 a z)⟩, sub2⟩
theorem R.setO (r : R K B Z S Γ σ H fp ofp) (i : Nat) {a : Addr} {xs : List V} {ds : List D} (h : H a = some (.lst xs)) (q : DVs K Z xs ds) (hf : Z.F a = none) (h1 : a ∉ fp) (h2 : a ∉ ofp) (hb : B.H a = none) :
    ∃ ofp', R K B Z S (Γ.set i (some (.own ds))) (σ.set i (some (.ref a))) H fp ofp' := by
  obtain ⟨l, m, rr, e, cs, hc, g⟩ := r.gm.set i (WR.own h q)
  subst e
  have sub : ∀ b, b ∈ fp ++ (l ++ cs ++ rr) → b = a ∨ b ∈ fp ++ (l ++ m ++ rr) := fun b z => by
    simp only [List.mem_append] at z ⊢
    rcases z with z | (z | z) | z
    · exact .inr (.inl z)
    · exact .inr (.inr (.inl (.inl z)))
    · rcases hc with hc | hc
      · rw [hc] at z
        exact .inl (List.mem_singleton.mp z)
      · rw [hc] at z
        cases z
    · exact .inr (.inr (.inr z))
  refine ⟨l ++ cs ++ rr, ⟨r.kk, r.fr, r.st, g, ?_, fun b z => ?_, ⟨r.ext.le, r.ext.fl, r.ext.keep, r.ext.there, fun b z => ?_, r.ext.frz⟩, fun b z => ?_⟩⟩
  · rcases hc with hc | hc
    · rw [hc]
      exact nodup_mid1 r.nd h1 h2
    · rw [hc, List.append_nil]
      exact nodup_mid r.nd
  · rcases sub b z with z | z
    · rw [z]
      exact hf
    · exact r.nf b z
  · rcases sub b z with z | z
    · rw [z]
      exact .inr hb
    · exact r.ext.new b z
  · simp only [List.mem_append] at z
    rcases z with (z | z) | z
    · exact r.of b (List.mem_append_left _ (List.mem_append_left _ z))
    · rcases hc with hc | hc
      · rw [hc] at z
        rw [List.mem_singleton.mp z]
        exact hb
      · rw [hc] at z
        cases z
    · exact r.of b (List.mem_append_right _ z)
/-- a slot forgotten -/
theorem R.del (r : R K B Z S Γ σ H fp ofp) (i : Nat) (v : Option V) : ∃ ofp', R K B Z S (Γ.set i none) (σ.set i v) H fp ofp' ∧ ∀ a ∈ ofp', a ∈ ofp := by
  obtain ⟨l, m, rr, e, g⟩ := r.gm.del i v
  subst e
  have sub : ∀ a, a ∈ fp ++ (l ++ rr) → a ∈ fp ++ (l ++ m ++ rr) := fun a z => by
    simp only [List.mem_append] at z ⊢
    rcases z with z | z | z
    · exact .inl z
    · exact .inr (.inl (.inl z))
    · exact .inr (.inr z)
  have sub2 : ∀ a, a ∈ l ++ rr → a ∈ l ++ m ++ rr := fun a z => by
    simp only [List.mem_append] at z ⊢
    rcases z with z | z
    · exact .inl (.inl z)
    · exact .inr z
  exact ⟨l ++ rr, ⟨r.kk, r.fr, r.st, g, nodup_mid r.nd, fun a z => r.nf a (sub a z), ⟨r.ext.le, r.ext.fl, r.ext.keep, r.ext.there, fun a z => r.ext.new a (sub a z), r.ext.frz⟩, fun a z => r.of a (sub2 a z)⟩, sub2⟩
theorem BV.list (r : R K B Z S Γ σ H fp ofp) {v : V} {ds : List D} (h : BV K Z σ Γ v (.lst ds)) : ∃ a xs, v = .ref a ∧ SqL K H a xs ∧ DVs K Z xs ds := by
  rcases h with h | ⟨i, es, h1, h2, h3⟩
  · cases h with
    | lst h q => exact ⟨_, _, rfl, same_sqL r.fr h, q⟩
  · cases h3
    obtain ⟨u, bs, e, w, _⟩ := r.gm.get h2
    rw [h1] at e
    cases e
    cases w with
    | own h q => exact ⟨_, _, rfl, SqL.of h, q⟩
theorem BV.dv {v : V} {d : D} (h : BV K Z σ Γ v d) (n : ∀ ds, d ≠ .lst ds) : DV K Z v d := by
  rcases h with h | ⟨i, es, _, _, h3⟩
  · exact h
  · exact absurd h3 (n es)
theorem BV.tup (r : R K B Z S Γ σ H fp ofp) {v : V} {ds : List D} (h : BV K Z σ Γ v (.tup ds)) : ∃ a xs, v = .ref a ∧ SqT K Z.F a xs ∧ SqT K H a xs ∧ DVs K Z xs ds := by
  have h' := h.dv (fun _ z => nomatch z)
  cases h' with
  | tup h1 q => exact ⟨_, _, rfl, h1, same_sqT r.fr h1, q⟩
theorem BV.mono (e : Z.le Z') {v : V} {d : D} (h : BV K Z σ Γ v d) : BV K Z' σ Γ v d := h.elim (fun h => .inl (h.mono e)) .inr
theorem BV.up {fp' : List Addr} {v : V} {d : D} (h : BV K Z σ Γ v d) (u : Up Z H fp Z' H' fp') : BV K Z' σ Γ v d := h.mono u.le
end
section
variable {K : PySem.W.Frag} {B : Bs} {Z Z' : Fz} {S : Sto} {Γ : Gm} {σ : L2.St} {H H' : Hp} {fp ofp : List Addr}
theorem SR.get : ∀ {i n : Nat} {S : Sto} {fp : List Addr} {o : O}, SR K Z H i S fp → cellAt S n = some o → ∃ l as r, fp = l ++ as ++ r ∧ OR K Z H (Z.ρ (i + n)) o as ∧
    ∀ (Z' : Fz) (H' : Hp) (o' : O) (as' : List Addr), Z.le Z' → i + S.length ≤ Z.k → (∀ a ∈ l, ∀ u, H a = some u → H' a = some u) → (∀ a ∈ r, ∀ u, H a = some u → H' a = some u) → OR K Z' H' (Z.ρ (i + n)) o' as' → SR K Z' H' i (S.set n o') (l ++ as' ++ r)
  | i, n, [], _, _, h, e => by cases e
  | i, 0, o :: S, _, _, h, e => by
    cases e
    cases h with
    | cons h1 h2 =>
      rename_i as bs
      refine ⟨[], as, bs, rfl, h1, fun Z' H' o' as' le hk hl hr h' => ?_⟩
      rw [List.length_cons] at hk
      have e1 := le.r i (by omega)
      have h3 : OR K Z' H' (Z'.ρ i) o' as' := by
        rw [e1]
        exact h'
      exact .cons h3 (h2.mono le (by omega) hr)
  | i, n + 1, o :: S, _, _, h, e => by
    cases h with
    | cons h1 h2 =>
      rename_i as bs
      obtain ⟨l, as2, r, e1, h3, k⟩ := SR.get (i := i + 1) (n := n) h2 e
      subst e1
      have ei : i + 1 + n = i + (n + 1) := by omega
      refine ⟨as ++ l, as2, r, by simp [List.append_assoc], by rw [← ei]; exact h3, fun Z' H' o' as' le hk hl hr h' => ?_⟩
      rw [List.length_cons] at hk
      have e2 := le.r i (by omega)
      have h4 := k Z' H' o' as' le (by omega) (fun a m => hl a (List.mem_append_right _ m)) hr (by rw [ei]; exact h')
      have h5 : OR K Z' H' (Z'.ρ i) o as := by
        rw [e2]
        exact h1.mono le fun a m => hl a (List.mem_append_left _ m)
      have h6 := SR.cons h5 h4
      have e3 : as ++ l ++ as' ++ r = as ++ (l ++ as' ++ r) := by simp [List.append_assoc]
      rw [e3]
      exact h6
theorem R.cell (r : R K B Z S Γ σ H fp ofp) {n : Nat} {o : O} (e : cellAt S n = some o) : ∃ as, OR K Z H (Z.ρ n) o as ∧ ∀ a ∈ as, a ∈ fp := by
  obtain ⟨l, as, rr, e1, h, _⟩ := r.st.get e
  rw [Nat.zero_add] at h
  exact ⟨as, h, fun a m => by rw [e1]; exact List.mem_append_left _ (List.mem_append_right _ m)⟩
theorem cell_lt : ∀ {S : Sto} {n : Nat} {o : O}, cellAt S n = some o → n < S.length
  | [], _, _, e => by cases e
  | _ :: _, 0, _, _ => Nat.succ_pos _
  | _ :: S, n + 1, _, e => Nat.succ_lt_succ (cell_lt (S := S) e)
/-- an operand: a value, a list of a slot's own, or a cell's list -/
def BQ (K : PySem.W.Frag) (Z : Fz) (S : Sto) (σ : L2.St) (Γ : Gm) (v : V) (d : D) : Prop := BV K Z σ Γ v d ∨ ∃ (m : Nat) (ds : List D), v = .ref (Z.ρ m) ∧ d = .lst ds ∧ cellAt S m = some (.lst ds)
theorem BV.q {v : V} {d : D} (h : BV K Z σ Γ v d) : BQ K Z S σ Γ v d := .inl h
/-- a cell's list in the place of the cell -/
def der (S : Sto) (x : D) : D := match x with
  | .ref m => (match cellAt S m with
    | some (.lst ds) => .lst ds
    | _ => .ref m)
  | x => x
theorem BV.der {v : V} {d : D} (h : BV K Z σ Γ v d) : BQ K Z S σ Γ v (DL.der S d) := by
  unfold DL.der
  split
  · rename_i m
    split
    · rename_i ds e
      have h' := h.dv (fun _ z => nomatch z)
      cases h' with
      | ref hn => exact .inr ⟨m, ds, rfl, rfl, e⟩
    · exact .inl h
  · exact .inl h
theorem BQ.list (r : R K B Z S Γ σ H fp ofp) {v : V} {ds : List D} (h : BQ K Z S σ Γ v (.lst ds)) : ∃ a xs, v = .ref a ∧ SqL K H a xs ∧ DVs K Z xs ds := by
  rcases h with h | ⟨m, es, e1, e2, e3⟩
  · exact h.list r
  · cases e2
    obtain ⟨as, oc, _⟩ := r.cell e3
    cases oc with
    | lst h1 h2 => exact ⟨_, _, e1, SqL.of h1, h2⟩
theorem BQ.dv {v : V} {d : D} (h : BQ K Z S σ Γ v d) (n : ∀ ds, d ≠ .lst ds) : DV K Z v d := by
  rcases h with h | ⟨m, es, e1, e2, e3⟩
  · exact h.dv n
  · exact absurd e2 (n es)
theorem BQ.tup (r : R K B Z S Γ σ H fp ofp) {v : V} {ds : List D} (h : BQ K Z S σ Γ v (.tup ds)) : ∃ a xs, v = .ref a ∧ SqT K Z.F a xs ∧ SqT K H a xs ∧ DVs K Z xs ds := by
  rcases h with h | ⟨m, es, e1, e2, e3⟩
  · exact h.tup r
  · cases e2
end
end DL
namespace DL
open PySem PySem.Spec PyProof.Rows L2
section
variable {X : Cx} {B : Bs} {a b c e : Expr} {ta tb tc te : DE} {pos : Pos}

/-! ### names, constants -/
def dVar (i : Nat) : DE := fun Γ S Q => match slotAt Γ i with
  | some (.d x) => Q x S
  | _ => False
def dVarB (i : Nat) : DE := fun Γ S Q => match slotAt Γ i with
  | some (.d x) => Q x S
  | some (.own ds) => Q (.lst ds) S
  | none => False
def dC (x : D) : DE := fun _ S Q => Q x S
theorem pd_var (i : Nat) {x : Str} (hN : X.N[i]? = some x := by rfl) (hv : Vis X.env.scope x := by first | exact Or.inl rfl | exact Or.inr (Or.inl rfl) | exact Or.inr (Or.inr rfl)) (hd : (x == ("__debug__" : Str)) = false := by decide)
    (hcd : (x == ("__classdict__" : Str)) = false := by decide) : PD X B (.Name x pos) (dVar i) := PE.weak (pe_var hN hv hd hcd) fun σ H Q h => by
  obtain ⟨Z, S, Γ, fp, ofp, P, r, h, q⟩ := h
  unfold dVar at h
  split at h
  · rename_i x0 e0
    obtain ⟨v, bs, e1, w, _⟩ := r.gm.get e0
    cases w with
    | d dv => exact ⟨v, e1, q _ _ h Z H fp v r (.refl _ _ _) dv⟩
  · exact h.elim
theorem pb_var (i : Nat) {x : Str} (hN : X.N[i]? = some x := by rfl) (hv : Vis X.env.scope x := by first | exact Or.inl rfl | exact Or.inr (Or.inl rfl) | exact Or.inr (Or.inr rfl)) (hd : (x == ("__debug__" : Str)) = false := by decide)
    (hcd : (x == ("__classdict__" : Str)) = false := by decide) : PB X B (.Name x pos) (dVarB i) := PE.weak (pe_var hN hv hd hcd) fun σ H Q h => by
  obtain ⟨Z, S, Γ, fp, ofp, P, r, h, q⟩ := h
  unfold dVarB at h
  split at h
  · rename_i x0 e0
    obtain ⟨v, bs, e1, w, _⟩ := r.gm.get e0
    cases w with
    | d dv => exact ⟨v, e1, q _ _ h Z H fp v r (.refl _ _ _) (.inl dv)⟩
  · rename_i ds e0
    obtain ⟨v, bs, e1, w, _⟩ := r.gm.get e0
    exact ⟨v, e1, q _ _ h Z H fp v r (.refl _ _ _) (.inr ⟨i, ds, e1, e0, rfl⟩)⟩
  · exact h.elim
/-- a read of what is handed on is a read -/
theorem pb_of (h : PD X B e te) : PB X B e te := PE.weak h fun σ H Q h => by
  obtain ⟨Z, S, Γ, fp, ofp, P, r, h, q⟩ := h
  exact ⟨Z, S, Γ, fp, ofp, P, r, h, fun d S' p Z' H' fp' v r' l dv => q d S' p Z' H' fp' v r' l (.inl dv)⟩
theorem pd_c {x : D} {v : V} (h : PE X e (tC v)) (k : ∀ Z, DV X.K Z v x) : PD X B e (dC x) := PE.weak h fun σ H Q h => by
  obtain ⟨Z, S, Γ, fp, ofp, P, r, h, q⟩ := h
  exact q _ _ h Z H fp v r (.refl _ _ _) (k Z)
theorem pd_int {i j} : PD X B (.Constant (.int i) j pos) (dC (.int i)) := pd_c pe_int fun _ => .int i
theorem pd_bl {b j} : PD X B (.Constant (.bool b) j pos) (dC (.bl b)) := pd_c pe_bl fun _ => .bl b
theorem pd_non {j} : PD X B (.Constant .none j pos) (dC .non) := pd_c pe_non fun _ => .non
theorem pd_str {x j} : PD X B (.Constant (.str x) j pos) (dC (.str x)) := pd_c pe_str fun _ => .str x
/-- a module's constant: an int, a text -/
theorem pd_gint {x : Str} {i : Int} {t : Tok} (hg : Gl X x) (hm : X.mg x = some (.int i t)) (hd : (x == ("__debug__" : Str)) = false := by decide) : PD X B (.Name x pos) (dC (.int i)) := pd_c (pe_glob (v := .int i) hg hm ⟨_, rfl⟩ hd) fun _ => .int i
theorem pd_gstr {x y : Str} {t : Tok} (hg : Gl X x) (hm : X.mg x = some (.str y t)) (hd : (x == ("__debug__" : Str)) = false := by decide) : PD X B (.Name x pos) (dC (.str y)) := pd_c (pe_glob (v := .str y) hg hm ⟨_, rfl⟩ hd) fun _ => .str y
/-- a tuple of the module -/
structure KTup (K : PySem.W.Frag) (a : Addr) (ds : List D) : Prop where
  ex : ∃ xs : List V, (∀ Z, DVs K Z xs ds) ∧ ∃ (o : Obj) (its : Array Value) (n : Nat), K.lookup a = some o ∧ o.cls = .type "tuple" ∧ o.data = .seq its n ∧ its.size ≤ sizeLine ∧ Vals xs its.toList
theorem pd_gtup {x : Str} {p : Addr} {ds : List D} (hg : Gl X x) (hm : X.mg x = some (.ref p)) (k : KTup X.K p ds) (hd : (x == ("__debug__" : Str)) = false := by decide) : PD X B (.Name x pos) (dC (.tup ds)) := pd_c (pe_glob (v := .ref p) hg hm rfl hd) fun Z => by
  obtain ⟨xs, h1, h2⟩ := k.ex
  exact .tup (.inr h2) (h1 Z)
/-- a class, a type as a value -/
theorem pd_gcls {x : Str} {p : Addr} (hg : Gl X x) (hm : X.mg x = some (.ref p)) (hd : (x == ("__debug__" : Str)) = false := by decide) : PD X B (.Name x pos) (dC (.val (.ref p))) := pd_c (pe_glob (v := .ref p) hg hm rfl hd) fun Z => .val trivial
theorem pd_ty {x : Str} {n : String} (hg : Gl X x) (hm : X.mg x = none) (hv : bootBuiltins x = some (.type n)) (hn : x ≠ "__name__" := by decide) (hd : (x == ("__debug__" : Str)) = false := by decide) : PD X B (.Name x pos) (dC (.val (.ty n))) :=
  pd_c (pe_bltn (v := .ty n) hg hm hv rfl hn hd) fun Z => .val trivial

/-! ### operators -/
def dOp (f : D → D → (D → Prop) → Prop) (ta tb : DE) : DE := fun Γ S Q => ta Γ S fun x S1 => tb Γ S1 fun y S2 => f (der S2 x) (der S2 y) fun z => Q z S2
/-- what a rule by values does on data -/
def OpD (X : Cx) (B : Bs) (r : R2) (f : D → D → (D → Prop) → Prop) : Prop :=
  ∀ {Z : Fz} {S : Sto} {Γ : Gm} {σ : L2.St} {H : Hp} {fp ofp : List Addr} {x y : D} {vx vy : V} {Q : VK} {P : D → Prop}, R X.K B Z S Γ σ H fp ofp → BQ X.K Z S σ Γ vx x → BQ X.K Z S σ Γ vy y → f x y P →
    (∀ z, P z → ∀ Z' H' v, R X.K B Z' S Γ σ H' fp ofp → Up Z H fp Z' H' fp → DV X.K Z' v z → Q v H') → r vx vy H Q
theorem opd_run {r : R2} {f : D → D → (D → Prop) → Prop} (hd : OpD X B r f) {σ : L2.St} {H : Hp} {Q : VK} (h : liftD X.K B (dOp f ta tb) σ H Q) : tOp r (liftB X.K B ta) (liftB X.K B tb) σ H Q := by
  obtain ⟨Z, S, Γ, fp, ofp, P, r0, h, q⟩ := h
  refine ⟨Z, S, Γ, fp, ofp, _, r0, h, fun x S1 h1 Z1 H1 fp1 vx r1 l1 b1 => ?_⟩
  refine ⟨Z1, S1, Γ, fp1, ofp, _, r1, h1, fun y S2 h2 Z2 H2 fp2 vy r2 l2 b2 => ?_⟩
  exact hd r2 (b1.up l2).der b2.der h2 fun z pz Z3 H3 v r3 l3 dv => q z S2 pz Z3 H3 fp2 v r3 ((l1.trans l2).trans l3) dv
theorem pd_op {op : Operator} {r : R2} {f : D → D → (D → Prop) → Prop} (o : OpR X (binaryOp op) r ∧ OpD X B r f) (ha : PB X B a ta) (hb : PB X B b tb) : PD X B (.BinOp a op b pos) (dOp f ta tb) :=
  PE.weak (pe_op o.1 ha hb) fun σ H Q h => opd_run o.2 h
theorem pd_cmp {op : CmpOp} {r : R2} {f : D → D → (D → Prop) → Prop} (o : OpR X (compareOp op) r ∧ OpD X B r f) (ha : PB X B a ta) (hb : PB X B b tb) (hm : behindInMarks op b = false := by rfl) : PD X B (.Compare a [op] [b] pos) (dOp f ta tb) :=
  PE.weak (pe_cmpR o.1 ha hb hm) fun σ H Q h => opd_run o.2 h
/-- a < b < c -/
def dChain (f g : D → D → (D → Prop) → Prop) (ta tb tc : DE) : DE := fun Γ S Q => ta Γ S fun x S1 => tb Γ S1 fun y S2 => f (der S2 x) (der S2 y) fun z => match z with
  | .bl k => (k = true → tc Γ S2 fun w S3 => g (der S3 y) (der S3 w) fun z' => Q z' S3) ∧ (k = false → Q (.bl false) S2)
  | _ => False
theorem pd_chain {op op' : CmpOp} {r r' : R2} {f g : D → D → (D → Prop) → Prop} (o : OpR X (compareOp op) r ∧ OpD X B r f) (o' : OpR X (compareOp op') r' ∧ OpD X B r' g) (ha : PB X B a ta) (hb : PB X B b tb) (hc : PB X B c tc) (hm : lastMarks [op, op'] [b, c] = false := by rfl) :
    PD X B (.Compare a [op, op'] [b, c] pos) (dChain f g ta tb tc) := PE.weak (pe_chain o.1 o'.1 ha hb hc hm) fun σ H Q h => by
  obtain ⟨Z, S, Γ, fp, ofp, P, r0, h, q⟩ := h
  refine ⟨Z, S, Γ, fp, ofp, _, r0, h, fun x S1 h1 Z1 H1 fp1 vx r1 l1 b1 => ?_⟩
  refine ⟨Z1, S1, Γ, fp1, ofp, _, r1, h1, fun y S2 h2 Z2 H2 fp2 vy r2 l2 b2 => ?_⟩
  refine o.2 r2 (b1.up l2).der b2.der h2 fun z pz Z3 H3 v r3 l3 dv => ?_
  cases z with
  | bl k =>
    cases dv
    refine ⟨k, rfl, ?_⟩
    cases k with
    | true =>
      refine iteT ?_
      refine ⟨Z3, S2, Γ, fp2, ofp, _, r3, pz.1 rfl, fun w S4 h4 Z4 H4 fp4 vw r4 l4 b4 => ?_⟩
      exact o'.2 r4 ((b2.up l3).up l4).der b4.der h4 fun z' pz' Z5 H5 v5 r5 l5 dv5 => q z' S4 pz' Z5 H5 fp4 v5 r5 ((((l1.trans l2).trans l3).trans l4).trans l5) dv5
    | false =>
      refine iteF ?_
      exact q _ S2 (pz.2 rfl) Z3 H3 fp2 _ r3 ((l1.trans l2).trans l3) (.bl false)
  | _ => exact False.elim pz

/-! ### truth values -/
def dAnd (ta tb : DE) : DE := fun Γ S Q => ta Γ S fun x S1 => match x with
  | .bl k => (k = true → tb Γ S1 Q) ∧ (k = false → Q (.bl false) S1)
  | _ => False
def dOr (ta tb : DE) : DE := fun Γ S Q => ta Γ S fun x S1 => match x with
  | .bl k => (k = true → Q (.bl true) S1) ∧ (k = false → tb Γ S1 Q)
  | _ => False
def dNot (ta : DE) : DE := fun Γ S Q => ta Γ S fun x S1 => match x with
  | .bl k => Q (.bl (!k)) S1
  | _ => False
variable {rest : List Expr}
theorem pd_one {op} (h : PD X B a te) : PD X B (.BoolOp op [a] pos) te := pe_one h
theorem pd_and (ha : PD X B a ta) (hb : PD X B (.BoolOp .And (b :: rest) pos) tb) : PD X B (.BoolOp .And (a :: b :: rest) pos) (dAnd ta tb) := PE.weak (pe_and ha hb) fun σ H Q h => by
  obtain ⟨Z, S, Γ, fp, ofp, P, r0, h, q⟩ := h
  refine ⟨Z, S, Γ, fp, ofp, _, r0, h, fun x S1 h1 Z1 H1 fp1 vx r1 l1 b1 => ?_⟩
  cases x with
  | bl k =>
    cases b1
    refine ⟨k, rfl, ?_⟩
    cases k with
    | true => exact iteT ⟨Z1, S1, Γ, fp1, ofp, P, r1, h1.1 rfl, fun d S' p Z' H' fp' v r' l dv => q d S' p Z' H' fp' v r' (l1.trans l) dv⟩
    | false => exact iteF (q _ S1 (h1.2 rfl) Z1 H1 fp1 _ r1 l1 (.bl false))
  | _ => exact False.elim h1
theorem pd_or (ha : PD X B a ta) (hb : PD X B (.BoolOp .Or (b :: rest) pos) tb) : PD X B (.BoolOp .Or (a :: b :: rest) pos) (dOr ta tb) := PE.weak (pe_or ha hb) fun σ H Q h => by
  obtain ⟨Z, S, Γ, fp, ofp, P, r0, h, q⟩ := h
  refine ⟨Z, S, Γ, fp, ofp, _, r0, h, fun x S1 h1 Z1 H1 fp1 vx r1 l1 b1 => ?_⟩
  cases x with
  | bl k =>
    cases b1
    refine ⟨k, rfl, ?_⟩
    cases k with
    | false => exact iteF ⟨Z1, S1, Γ, fp1, ofp, P, r1, h1.2 rfl, fun d S' p Z' H' fp' v r' l dv => q d S' p Z' H' fp' v r' (l1.trans l) dv⟩
    | true => exact iteT (q _ S1 (h1.1 rfl) Z1 H1 fp1 _ r1 l1 (.bl true))
  | _ => exact False.elim h1
theorem pd_not (ha : PD X B a ta) : PD X B (.UnaryOp .Not a pos) (dNot ta) := PE.weak (pe_not ha) fun σ H Q h => by
  obtain ⟨Z, S, Γ, fp, ofp, P, r0, h, q⟩ := h
  refine ⟨Z, S, Γ, fp, ofp, _, r0, h, fun x S1 h1 Z1 H1 fp1 vx r1 l1 b1 => ?_⟩
  cases x with
  | bl k =>
    cases b1
    exact ⟨k, rfl, q _ S1 h1 Z1 H1 fp1 _ r1 l1 (.bl _)⟩
  | _ => exact False.elim h1

/-! ### tests -/
def dT (te : DE) : DT := fun Γ S Q => te Γ S fun x S1 => match x with
  | .bl k => Q k S1
  | _ => False
def dTAnd (t u : DT) : DT := fun Γ S Q => t Γ S fun c S1 => (c = true → u Γ S1 Q) ∧ (c = false → Q false S1)
def dTOr (t u : DT) : DT := fun Γ S Q => t Γ S fun c S1 => (c = true → Q true S1) ∧ (c = false → u Γ S1 Q)
def dTNot (t : DT) : DT := fun Γ S Q => t Γ S fun c S1 => Q (!c) S1
variable {tt tu : DT}
theorem pt_d (h : PD X B e te) (he : ∀ whole, isTrue e X.env whole = (do let v ← whole; standAt e.pos; holding [v] (truthy v)) := by intro _; rfl) : PTD X B e (dT te) := PT.weak (pt_val h he) fun σ H Q h => by
  obtain ⟨Z, S, Γ, fp, ofp, P, r0, h, q⟩ := h
  refine ⟨Z, S, Γ, fp, ofp, _, r0, h, fun x S1 h1 Z1 H1 fp1 vx r1 l1 b1 => ?_⟩
  cases x with
  | bl k =>
    cases b1
    exact ⟨k, rfl, q _ S1 h1 Z1 H1 fp1 r1 l1⟩
  | _ => exact False.elim h1
theorem pt_dcmp {op : CmpOp} {r : R2} {f : D → D → (D → Prop) → Prop} (o : OpR X (compareOp op) r ∧ OpD X B r f) (ha : PB X B a ta) (hb : PB X B b tb) (hm : behindInMarks op b = false := by rfl) : PTD X B (.Compare a [op] [b] pos) (dT (dOp f ta tb)) :=
  PT.weak (pt_cmpR o.1 ha hb hm) fun σ H Q h => by
  obtain ⟨Z, S, Γ, fp, ofp, P, r0, h, q⟩ := h
  refine opd_run o.2 (ta := ta) (tb := tb) ⟨Z, S, Γ, fp, ofp, _, r0, h, fun x S1 h1 Z1 H1 fp1 vx r1 l1 b1 => ?_⟩
  cases x with
  | bl k =>
    cases b1
    exact ⟨k, rfl, q _ S1 h1 Z1 H1 fp1 r1 l1⟩
  | _ => exact False.elim h1
theorem pt_dchain {op op' : CmpOp} {r r' : R2} {f g : D → D → (D → Prop) → Prop} (o : OpR X (compareOp op) r ∧ OpD X B r f) (o' : OpR X (compareOp op') r' ∧ OpD X B r' g) (ha : PB X B a ta) (hb : PB X B b tb) (hc : PB X B c tc) (hm : lastMarks [op, op'] [b, c] = false := by rfl) :
    PTD X B (.Compare a [op, op'] [b, c] pos) (dT (dChain f g ta tb tc)) := PT.weak (pt_chain o.1 o'.1 ha hb hc hm) fun σ H Q h => by
  obtain ⟨Z, S, Γ, fp, ofp, P, r0, h, q⟩ := h
  refine ⟨Z, S, Γ, fp, ofp, _, r0, h, fun x S1 h1 Z1 H1 fp1 vx r1 l1 b1 => ?_⟩
  refine ⟨Z1, S1, Γ, fp1, ofp, _, r1, h1, fun y S2 h2 Z2 H2 fp2 vy r2 l2 b2 => ?_⟩
  refine o.2 r2 (b1.up l2).der b2.der h2 fun z pz Z3 H3 v r3 l3 dv => ?_
  cases z with
  | bl k =>
    cases dv
    refine ⟨k, rfl, ?_⟩
    cases k with
    | true =>
      refine iteT ?_
      refine ⟨Z3, S2, Γ, fp2, ofp, _, r3, pz.1 rfl, fun w S4 h4 Z4 H4 fp4 vw r4 l4 b4 => ?_⟩
      refine o'.2 r4 ((b2.up l3).up l4).der b4.der h4 fun z' pz' Z5 H5 v5 r5 l5 dv5 => ?_
      cases z' with
      | bl k' =>
        cases dv5
        exact ⟨k', rfl, q _ S4 pz' Z5 H5 fp4 r5 ((((l1.trans l2).trans l3).trans l4).trans l5)⟩
      | _ => exact False.elim pz'
    | false =>
      refine iteF ?_
      exact ⟨false, rfl, q _ S2 (pz.2 rfl) Z3 H3 fp2 r3 ((l1.trans l2).trans l3)⟩
  | _ => exact False.elim pz
theorem pw_d1 {op} (h : PTD X B a tt) : op = .And ∨ op = .Or → PW X (.BoolOp op [a] pos) (liftT X.K B tt) := fun q => by
  rcases q with rfl | rfl
  · exact pw_and1 h
  · exact pw_or1 h
theorem PW.weak {e : Expr} {t t' : TT} (h : PW X e t) (k : ∀ σ H Q, t' σ H Q → t σ H Q) : PW X e t' := ⟨fun wh pins s σ H Q I q => h.run wh pins s σ H Q I (k _ _ _ q)⟩
abbrev PWD (X : Cx) (B : Bs) (e : Expr) (t : DT) : Prop := PW X e (liftT X.K B t)
theorem pw_dand (ha : PTD X B a tt) (hb : PWD X B (.BoolOp .And (b :: rest) pos) tu) : PWD X B (.BoolOp .And (a :: b :: rest) pos) (dTAnd tt tu) := PW.weak (pw_and ha hb) fun σ H Q h => by
  obtain ⟨Z, S, Γ, fp, ofp, P, r0, h, q⟩ := h
  refine ⟨Z, S, Γ, fp, ofp, _, r0, h, fun k S1 h1 Z1 H1 fp1 r1 l1 => ?_⟩
  cases k with
  | true => exact iteT ⟨Z1, S1, Γ, fp1, ofp, P, r1, h1.1 rfl, fun d S' p Z' H' fp' r' l => q d S' p Z' H' fp' r' (l1.trans l)⟩
  | false => exact iteF (q _ S1 (h1.2 rfl) Z1 H1 fp1 r1 l1)
theorem pw_dor (ha : PTD X B a tt) (hb : PWD X B (.BoolOp .Or (b :: rest) pos) tu) : PWD X B (.BoolOp .Or (a :: b :: rest) pos) (dTOr tt tu) := PW.weak (pw_or ha hb) fun σ H Q h => by
  obtain ⟨Z, S, Γ, fp, ofp, P, r0, h, q⟩ := h
  refine ⟨Z, S, Γ, fp, ofp, _, r0, h, fun k S1 h1 Z1 H1 fp1 r1 l1 => ?_⟩
  cases k with
  | false => exact iteF ⟨Z1, S1, Γ, fp1, ofp, P, r1, h1.2 rfl, fun d S' p Z' H' fp' r' l => q d S' p Z' H' fp' r' (l1.trans l)⟩
  | true => exact iteT (q _ S1 (h1.1 rfl) Z1 H1 fp1 r1 l1)
theorem pw_dand1 (h : PTD X B a tt) : PWD X B (.BoolOp .And [a] pos) tt := pw_and1 h
theorem pw_dor1 (h : PTD X B a tt) : PWD X B (.BoolOp .Or [a] pos) tt := pw_or1 h
theorem pt_dnot (ha : PTD X B a tt) : PTD X B (.UnaryOp .Not a pos) (dTNot tt) := PT.weak (L2.pt_not ha) fun σ H Q h => by
  obtain ⟨Z, S, Γ, fp, ofp, P, r0, h, q⟩ := h
  exact ⟨Z, S, Γ, fp, ofp, _, r0, h, fun k S1 h1 Z1 H1 fp1 r1 l1 => q _ S1 h1 Z1 H1 fp1 r1 l1⟩
def dIf (t : DT) (ta tb : DE) : DE := fun Γ S Q => t Γ S fun c S1 => (c = true → ta Γ S1 Q) ∧ (c = false → tb Γ S1 Q)
theorem pd_ifExp (hc : PTD X B c tt) (ha : PD X B a ta) (hb : PD X B b tb) : PD X B (.IfExp c a b pos) (dIf tt ta tb) := PE.weak (pe_ifExp hc ha hb) fun σ H Q h => by
  obtain ⟨Z, S, Γ, fp, ofp, P, r0, h, q⟩ := h
  refine ⟨Z, S, Γ, fp, ofp, _, r0, h, fun k S1 h1 Z1 H1 fp1 r1 l1 => ?_⟩
  cases k with
  | true => exact iteT ⟨Z1, S1, Γ, fp1, ofp, P, r1, h1.1 rfl, fun d S' p Z' H' fp' v r' l dv => q d S' p Z' H' fp' v r' (l1.trans l) dv⟩
  | false => exact iteF ⟨Z1, S1, Γ, fp1, ofp, P, r1, h1.2 rfl, fun d S' p Z' H' fp' v r' l dv => q d S' p Z' H' fp' v r' (l1.trans l) dv⟩

/-! ### argument lists, displays -/
def dNil : DA := fun _ S Q => Q [] S
def dCons (ta : DE) (tr : DA) : DA := fun Γ S Q => ta Γ S fun x S1 => tr Γ S1 fun xs S2 => Q (x :: xs) S2
variable {es : List Expr} {tr : DA}
theorem pa_dnil : PAD X B [] dNil := PA.weak pa_nil fun σ H Q h => by
  obtain ⟨Z, S, Γ, fp, ofp, P, r0, h, q⟩ := h
  exact q _ _ h Z H fp [] r0 (.refl _ _ _) .nil
theorem pa_dcons (ha : PD X B a ta) (hr : PAD X B es tr) (he : starEach (a :: es) X.env = (false, eval a X.env) :: starEach es X.env := by rfl) : PAD X B (a :: es) (dCons ta tr) := PA.weak (pa_cons ha hr he) fun σ H Q h => by
  obtain ⟨Z, S, Γ, fp, ofp, P, r0, h, q⟩ := h
  refine ⟨Z, S, Γ, fp, ofp, _, r0, h, fun x S1 h1 Z1 H1 fp1 vx r1 l1 b1 => ?_⟩
  refine ⟨Z1, S1, Γ, fp1, ofp, _, r1, h1, fun xs S2 h2 Z2 H2 fp2 vs r2 l2 b2 => ?_⟩
  exact q _ S2 h2 Z2 H2 fp2 _ r2 (l1.trans l2) (.cons (b1.up l2) b2)
/-- small enough -/
def sz (n : Nat) : Prop := n ≤ 100000
theorem sz.ok {n : Nat} (h : sz n) : n ≤ sizeLine := Nat.le_trans h (by decide)
def dTup (tr : DA) : DE := fun Γ S Q => tr Γ S fun ds S1 => sz ds.length ∧ Q (.tup ds) S1
theorem pd_tup {k} (ha : PAD X B es tr) (hs : ∀ e', starEach es X.env = e' → True := by intros; trivial) (h : ∀ {t : TA}, PA X es t → PE X (.Tuple es k pos) (tTup t) := by exact fun h => pe_tup h) : PD X B (.Tuple es k pos) (dTup tr) := PE.weak (h ha) fun σ H Q h => by
  obtain ⟨Z, S, Γ, fp, ofp, P, r0, h, q⟩ := h
  refine ⟨Z, S, Γ, fp, ofp, _, r0, h, fun ds S1 h1 Z1 H1 fp1 vs r1 l1 b1 => ?_⟩
  obtain ⟨h1, p1⟩ := h1
  refine ⟨by rw [b1.length]; exact h1.ok, fun p hp => ?_⟩
  have l2 := r1.upF (o := .tup vs) hp
  exact q _ S1 p1 _ _ fp1 _ (r1.growF hp) (l1.trans l2) (.tup (SqT.of (show upd Z1.F p (.tup vs) p = _ from upd_same)) (b1.up l2))
/-- a fresh list -/
def dLst (tr : DA) : DA := fun Γ S Q => tr Γ S fun ds S1 => sz ds.length ∧ Q ds S1
theorem pf_lst (ha : PAD X B es tr) (h : ∀ {t : TA}, PA X es t → PE X (.List es pos) (tLst t) := by exact fun h => pe_lst h) : PF X B (.List es pos) (dLst tr) := PE.weak (h ha) fun σ H Q h => by
  obtain ⟨Z, S, Γ, fp, ofp, P, r0, h, q⟩ := h
  refine ⟨Z, S, Γ, fp, ofp, _, r0, h, fun ds S1 h1 Z1 H1 fp1 vs r1 l1 b1 => ?_⟩
  obtain ⟨h1, p1⟩ := h1
  refine ⟨by rw [b1.length]; exact h1.ok, fun p hp => ?_⟩
  obtain ⟨q1, q2, q3, q4⟩ := r1.fresh hp
  exact q _ S1 p1 Z1 _ fp1 p vs (r1.grow hp) (l1.trans (r1.up0 hp)) upd_same b1 q3 q1 q2 (l1.there _ hp)
/-- frozen -/
def dFz (tr : DA) : DE := fun Γ S Q => tr Γ S fun ds S1 => Q (.lst ds) S1
theorem pd_fz (h : PF X B e tr) : PD X B e (dFz tr) := PE.weak h fun σ H Q h => by
  obtain ⟨Z, S, Γ, fp, ofp, P, r0, h, q⟩ := h
  refine ⟨Z, S, Γ, fp, ofp, _, r0, h, fun ds S1 h1 Z1 H1 fp1 p xs r1 l1 e1 b1 hf n1 n2 n3 => ?_⟩
  exact q _ S1 h1 _ H1 fp1 _ (r1.freeze e1 hf n1 n2 (r0.ext.there _ n3)) (l1.addF n3 hf) (.lst (SqL.of (show upd Z1.F p (.lst xs) p = _ from upd_same)) (b1.mono (le_frz hf)))
/-! ### built-in calls -/
inductive BVs (K : PySem.W.Frag) (Z : Fz) (σ : L2.St) (Γ : Gm) : List V → List D → Prop
  | nil : BVs K Z σ Γ [] []
  | cons {v : V} {vs : List V} {d : D} {ds : List D} : BV K Z σ Γ v d → BVs K Z σ Γ vs ds → BVs K Z σ Γ (v :: vs) (d :: ds)
inductive BQs (K : PySem.W.Frag) (Z : Fz) (S : Sto) (σ : L2.St) (Γ : Gm) : List V → List D → Prop
  | nil : BQs K Z S σ Γ [] []
  | cons {v : V} {vs : List V} {d : D} {ds : List D} : BQ K Z S σ Γ v d → BQs K Z S σ Γ vs ds → BQs K Z S σ Γ (v :: vs) (d :: ds)
theorem BVs.der {K : PySem.W.Frag} {Z : Fz} {S : Sto} {σ : L2.St} {Γ : Gm} : ∀ {vs : List V} {ds : List D}, BVs K Z σ Γ vs ds → BQs K Z S σ Γ vs (ds.map (DL.der S))
  | _, _, .nil => .nil
  | _, _, .cons h t => .cons h.der (BVs.der t)
theorem BVs.q {K : PySem.W.Frag} {Z : Fz} {S : Sto} {σ : L2.St} {Γ : Gm} : ∀ {vs : List V} {ds : List D}, BVs K Z σ Γ vs ds → BQs K Z S σ Γ vs ds
  | _, _, .nil => .nil
  | _, _, .cons h t => .cons h.q (BVs.q t)
def liftAB (K : PySem.W.Frag) (B : Bs) (te : DA) : TA := fun σ H Q => ∃ Z S Γ fp ofp P, R K B Z S Γ σ H fp ofp ∧ te Γ S P ∧
  ∀ ds S', P ds S' → ∀ Z' H' fp' vs, R K B Z' S' Γ σ H' fp' ofp → Up Z H fp Z' H' fp' → BVs K Z' σ Γ vs ds → Q vs H'
abbrev PAB (X : Cx) (B : Bs) (es : List Expr) (te : DA) : Prop := PA X es (liftAB X.K B te)
theorem pb_nil : PAB X B [] dNil := PA.weak pa_nil fun σ H Q h => by
  obtain ⟨Z, S, Γ, fp, ofp, P, r0, h, q⟩ := h
  exact q _ _ h Z H fp [] r0 (.refl _ _ _) .nil
theorem pb_cons (ha : PB X B a ta) (hr : PAB X B es tr) (he : starEach (a :: es) X.env = (false, eval a X.env) :: starEach es X.env := by rfl) : PAB X B (a :: es) (dCons ta tr) := PA.weak (pa_cons ha hr he) fun σ H Q h => by
  obtain ⟨Z, S, Γ, fp, ofp, P, r0, h, q⟩ := h
  refine ⟨Z, S, Γ, fp, ofp, _, r0, h, fun x S1 h1 Z1 H1 fp1 vx r1 l1 b1 => ?_⟩
  refine ⟨Z1, S1, Γ, fp1, ofp, _, r1, h1, fun xs S2 h2 Z2 H2 fp2 vs r2 l2 b2 => ?_⟩
  exact q _ S2 h2 Z2 H2 fp2 _ r2 (l1.trans l2) (.cons (b1.up l2) b2)
/-- what a built-in does on data -/
def CallD (X : Cx) (B : Bs) (r : List V → Hp → VK → Prop) (f : List D → (D → Prop) → Prop) : Prop :=
  ∀ {Z : Fz} {S : Sto} {Γ : Gm} {σ : L2.St} {H : Hp} {fp ofp : List Addr} {xs : List D} {vs : List V} {Q : VK} {P : D → Prop}, R X.K B Z S Γ σ H fp ofp → BQs X.K Z S σ Γ vs xs → f xs P →
    (∀ z, P z → ∀ Z' H' v, R X.K B Z' S Γ σ H' fp ofp → Up Z H fp Z' H' fp → DV X.K Z' v z → Q v H') → r vs H Q
def dCall (f : List D → (D → Prop) → Prop) (tr : DA) : DE := fun Γ S Q => tr Γ S fun xs S1 => f (xs.map (der S1)) fun z => Q z S1
theorem calld_run {r : List V → Hp → VK → Prop} {f : List D → (D → Prop) → Prop} (hd : CallD X B r f) {σ : L2.St} {H : Hp} {Q : VK} (h : liftD X.K B (dCall f tr) σ H Q) : tCB r (liftAB X.K B tr) σ H Q := by
  obtain ⟨Z, S, Γ, fp, ofp, P, r0, h, q⟩ := h
  refine ⟨Z, S, Γ, fp, ofp, _, r0, h, fun xs S1 h1 Z1 H1 fp1 vs r1 l1 b1 => ?_⟩
  exact hd r1 b1.der h1 fun z pz Z3 H3 v r3 l3 dv => q z S1 pz Z3 H3 fp1 v r3 (l1.trans l3) dv
theorem pd_callB {x : Str} {p : Pos} {id : String} {r : List V → Hp → VK → Prop} {f : List D → (D → Prop) → Prop} (o : CallR X (.builtin id) r ∧ CallD X B r f) (hg : Gl X x) (hm : X.mg x = none) (hv : bootBuiltins x = some (.builtin id)) (ha : PAB X B (e :: es) tr) (hn : x ≠ "__name__" := by decide) (hdb : (x == ("__debug__" : Str)) = false := by decide)
    (he : starEach (e :: es) X.env = (false, eval e X.env) :: starEach es X.env := by rfl) (hpl : (backTo pos (starEach es X.env)).any (·.1) = false := by rfl) : PD X B (.Call (.Name x p) (e :: es) [] pos) (dCall f tr) :=
  PE.weak (pe_callB o.1 hg hm hv ha hn hdb he hpl) fun σ H Q h => calld_run o.2 h
theorem pd_callTy {x : Str} {p : Pos} {T : String} {r : List V → Hp → VK → Prop} {f : List D → (D → Prop) → Prop} (o : CallR X (.type T) r ∧ CallD X B r f) (hg : Gl X x) (hm : X.mg x = none) (hv : bootBuiltins x = some (.type T)) (ha : PAB X B (e :: es) tr) (hn : x ≠ "__name__" := by decide) (hdb : (x == ("__debug__" : Str)) = false := by decide)
    (he : starEach (e :: es) X.env = (false, eval e X.env) :: starEach es X.env := by rfl) (hpl : (backTo pos (starEach es X.env)).any (·.1) = false := by rfl) : PD X B (.Call (.Name x p) (e :: es) [] pos) (dCall f tr) :=
  PE.weak (pe_callTy o.1 hg hm hv ha hn hdb he hpl) fun σ H Q h => calld_run o.2 h
/-- a built-in that hands back a fresh list -/
def CallF (X : Cx) (B : Bs) (r : List V → Hp → VK → Prop) (f : List D → (List D → Prop) → Prop) : Prop :=
  ∀ {Z : Fz} {S : Sto} {Γ : Gm} {σ : L2.St} {H : Hp} {fp ofp : List Addr} {xs : List D} {vs : List V} {Q : VK} {P : List D → Prop}, R X.K B Z S Γ σ H fp ofp → BQs X.K Z S σ Γ vs xs → f xs P →
    (∀ ds, P ds → ∀ Z' H' a us, R X.K B Z' S Γ σ H' fp ofp → Up Z H fp Z' H' fp → H' a = some (.lst us) → DVs X.K Z' us ds → Z'.F a = none → a ∉ fp → a ∉ ofp → H a = none → Q (.ref a) H') → r vs H Q
def dCallF (f : List D → (List D → Prop) → Prop) (tr : DA) : DA := fun Γ S Q => tr Γ S fun xs S1 => f (xs.map (der S1)) fun z => Q z S1
theorem callf_run {r : List V → Hp → VK → Prop} {f : List D → (List D → Prop) → Prop} (hd : CallF X B r f) {σ : L2.St} {H : Hp} {Q : VK} (h : liftO X.K B (dCallF f tr) σ H Q) : tCB r (liftAB X.K B tr) σ H Q := by
  obtain ⟨Z, S, Γ, fp, ofp, P, r0, h, q⟩ := h
  refine ⟨Z, S, Γ, fp, ofp, _, r0, h, fun xs S1 h1 Z1 H1 fp1 vs r1 l1 b1 => ?_⟩
  exact hd r1 b1.der h1 fun z pz Z3 H3 a us r3 l3 e3 d3 n1 n2 n3 n4 => q z S1 pz Z3 H3 fp1 a us r3 (l1.trans l3) e3 d3 n1 n2 n3 (l1.there _ n4)
theorem pf_callB {x : Str} {p : Pos} {id : String} {r : List V → Hp → VK → Prop} {f : List D → (List D → Prop) → Prop} (o : CallR X (.builtin id) r ∧ CallF X B r f) (hg : Gl X x) (hm : X.mg x = none) (hv : bootBuiltins x = some (.builtin id)) (ha : PAB X B (e :: es) tr) (hn : x ≠ "__name__" := by decide) (hdb : (x == ("__debug__" : Str)) = false := by decide)
    (he : starEach (e :: es) X.env = (false, eval e X.env) :: starEach es X.env := by rfl) (hpl : (backTo pos (starEach es X.env)).any (·.1) = false := by rfl) : PF X B (.Call (.Name x p) (e :: es) [] pos) (dCallF f tr) :=
  PE.weak (pe_callB o.1 hg hm hv ha hn hdb he hpl) fun σ H Q h => callf_run o.2 h
theorem pf_callTy {x : Str} {p : Pos} {T : String} {r : List V → Hp → VK → Prop} {f : List D → (List D → Prop) → Prop} (o : CallR X (.type T) r ∧ CallF X B r f) (hg : Gl X x) (hm : X.mg x = none) (hv : bootBuiltins x = some (.type T)) (ha : PAB X B (e :: es) tr) (hn : x ≠ "__name__" := by decide) (hdb : (x == ("__debug__" : Str)) = false := by decide)
    (he : starEach (e :: es) X.env = (false, eval e X.env) :: starEach es X.env := by rfl) (hpl : (backTo pos (starEach es X.env)).any (·.1) = false := by rfl) : PF X B (.Call (.Name x p) (e :: es) [] pos) (dCallF f tr) :=
  PE.weak (pe_callTy o.1 hg hm hv ha hn hdb he hpl) fun σ H Q h => callf_run o.2 h
/-- a fresh list by an operator -/
def OpF (X : Cx) (B : Bs) (r : R2) (f : D → D → (List D → Prop) → Prop) : Prop :=
  ∀ {Z : Fz} {S : Sto} {Γ : Gm} {σ : L2.St} {H : Hp} {fp ofp : List Addr} {x y : D} {vx vy : V} {Q : VK} {P : List D → Prop}, R X.K B Z S Γ σ H fp ofp → BQ X.K Z S σ Γ vx x → BQ X.K Z S σ Γ vy y → f x y P →
    (∀ ds, P ds → ∀ Z' H' a us, R X.K B Z' S Γ σ H' fp ofp → Up Z H fp Z' H' fp → H' a = some (.lst us) → DVs X.K Z' us ds → Z'.F a = none → a ∉ fp → a ∉ ofp → H a = none → Q (.ref a) H') → r vx vy H Q
def dOpF (f : D → D → (List D → Prop) → Prop) (ta tb : DE) : DA := fun Γ S Q => ta Γ S fun x S1 => tb Γ S1 fun y S2 => f (der S2 x) (der S2 y) fun z => Q z S2
theorem pf_op {op : Operator} {r : R2} {f : D → D → (List D → Prop) → Prop} (o : OpR X (binaryOp op) r ∧ OpF X B r f) (ha : PB X B a ta) (hb : PB X B b tb) : PF X B (.BinOp a op b pos) (dOpF f ta tb) :=
  PE.weak (pe_op o.1 ha hb) fun σ H Q h => by
  obtain ⟨Z, S, Γ, fp, ofp, P, r0, h, q⟩ := h
  refine ⟨Z, S, Γ, fp, ofp, _, r0, h, fun x S1 h1 Z1 H1 fp1 vx r1 l1 b1 => ?_⟩
  refine ⟨Z1, S1, Γ, fp1, ofp, _, r1, h1, fun y S2 h2 Z2 H2 fp2 vy r2 l2 b2 => ?_⟩
  exact o.2 r2 (b1.up l2).der b2.der h2 fun z pz Z3 H3 v us r3 l3 e3 d3 n1 n2 n3 n4 => q z S2 pz Z3 H3 fp2 v us r3 ((l1.trans l2).trans l3) e3 d3 n1 n2 n3 ((l1.trans l2).there _ n4)
end
end DL
namespace DL
open PySem PySem.Spec PyProof.Rows L2

/-! ### an owned list changed -/
section
variable {K : PySem.W.Frag} {B : Bs} {Z Z' : Fz} {S : Sto} {Γ : Gm} {σ : L2.St} {H H' : Hp} {fp ofp : List Addr}
theorem slot_set_ne {w : Option W} : ∀ {Γ : Gm} {i j : Nat}, i ≠ j → slotAt (Γ.set i w) j = slotAt Γ j
  | [], _, _, _ => rfl
  | _ :: _, 0, 0, h => absurd rfl h
  | _ :: _, 0, _ + 1, _ => rfl
  | _ :: _, _ + 1, 0, _ => rfl
  | _ :: r, i + 1, j + 1, h => slot_set_ne (Γ := r) fun e => h (by rw [e])
theorem GR.write : ∀ {σ : L2.St} {Γ : Gm} {as : List Addr} {i : Nat} {ds ds' : List D} {a : Addr} {xs : List V}, GR K Z H σ Γ as → as.Nodup → slotAt Γ i = some (.own ds) → σ[i]? = some (some (.ref a)) → DVs K Z xs ds' →
    GR K Z (upd H a (.lst xs)) σ (Γ.set i (some (.own ds'))) as ∧ a ∈ as
  | _, _, _, _, _, _, _, _, .nil, _, e, _, _ => by cases e
  | _, _, _, 0, _, _, _, _, .gn q, _, e, _, _ => by cases e
  | _, _, _, i + 1, _, _, _, _, .gn q, n, e, e2, d => by
    obtain ⟨g, m⟩ := GR.write q n e (by simpa using e2) d
    exact ⟨.gn g, m⟩
  | _, _, _, 0, _, _, a, xs, .gs (bs := bs) h q, n, e, e2, d => by
    cases e
    simp at e2
    subst e2
    cases h with
    | own h1 h2 =>
      have n2 : a ∉ bs := (List.nodup_cons.mp n).1
      refine ⟨.gs (.own upd_same d) (q.mono (.refl _) fun b m o e => ?_), List.mem_append_left _ (List.mem_singleton.mpr rfl)⟩
      rw [upd_ne fun z => n2 (by rw [← z]; exact m)]
      exact e
  | _, _, _, i + 1, _, _, a, xs, .gs (as := as1) h q, n, e, e2, d => by
    have n' := List.nodup_append.mp n
    obtain ⟨g, m⟩ := GR.write q n'.2.1 e (by simpa using e2) d
    refine ⟨.gs (h.mono (.refl _) fun b mb o e => ?_) g, List.mem_append_right _ m⟩
    rw [upd_ne (n'.2.2 b mb a m)]
    exact e
theorem R.write (r : R K B Z S Γ σ H fp ofp) {i : Nat} {ds ds' : List D} (e : slotAt Γ i = some (.own ds)) : ∃ a xs, σ[i]? = some (some (.ref a)) ∧ H a = some (.lst xs) ∧ DVs K Z xs ds ∧
    ∀ xs', DVs K Z xs' ds' → R K B Z S (Γ.set i (some (.own ds'))) σ (upd H a (.lst xs')) fp ofp := by
  obtain ⟨v, bs, e1, w, hb⟩ := r.gm.get e
  cases w with
  | @own a xs _ h q =>
    refine ⟨a, xs, e1, h, q, fun xs' d => ?_⟩
    have n' := List.nodup_append.mp r.nd
    obtain ⟨g, m⟩ := r.gm.write n'.2.1 e e1 d
    have na : ∀ b o, b ≠ a → H b = some o → upd H a (.lst xs') b = some o := fun b o n e => by
      rw [upd_ne n]
      exact e
    have fa : Z.F a = none := r.nf a (List.mem_append_right _ m)
    refine ⟨r.kk, fun b o e => na b o (fun z => by rw [z, fa] at e; cases e) (r.fr b o e), r.st.mono (.refl _) (by have := r.kk; omega) (fun b mb o e => na b o (n'.2.2 b mb a m) e), g, r.nd, r.nf,
      ⟨r.ext.le, r.ext.fl, fun b o e n => ?_, fun b e => ?_, r.ext.new, r.ext.frz⟩, r.of⟩
    · refine na b o (fun z => ?_) (r.ext.keep b o e n)
      subst z
      rcases r.ext.new b (List.mem_append_right _ m) with z | z
      · exact n z
      · rw [z] at e
        cases e
    · by_cases z : b = a
      · rw [z, upd_same] at e
        cases e
      · rw [upd_ne z] at e
        exact r.ext.there b e
end

section
variable {X : Cx} {B : Bs} {a b c e : Expr} {te : DE} {to : DA} {tt : DT} {pos : Pos} {ts tu : DS} {st : Stmt} {rest : List Stmt}
def dNext : DS := fun DD Γ S => DD.nx Γ S
def dSeq (t u : DS) : DS := fun DD Γ S => t { DD with nx := u DD } Γ S
theorem ends_seq {DD : DEnds} {Dn : Ends} (ok : EndsOk X.K B DD Dn) : EndsOk X.K B { DD with nx := tu DD } { Dn with nx := liftS X.K B tu Dn } :=
  ⟨fun Z S Γ σ H fp ofp r h => ⟨Z, S, Γ, fp, ofp, DD, r, h, ok⟩, ok.bk, ok.ct, ok.rt⟩
theorem pss_dnil : PSsD X B [] dNext := PSs.weak pss_nil fun Dn σ H h => by
  obtain ⟨Z, S, Γ, fp, ofp, DD, r, h, ok⟩ := h
  exact ok.nx _ _ _ _ _ _ _ r h
theorem pss_dcons (h1 : PSD X B st ts) (h2 : PSsD X B rest tu) : PSsD X B (st :: rest) (dSeq ts tu) := PSs.weak (pss_cons h1 h2) fun Dn σ H h => by
  obtain ⟨Z, S, Γ, fp, ofp, DD, r, h, ok⟩ := h
  exact ⟨Z, S, Γ, fp, ofp, _, r, h, ends_seq ok⟩
theorem pss_done (h1 : PSD X B st ts) : PSsD X B [st] ts := pss_one h1
def dPass : DS := fun DD Γ S => DD.nx Γ S
def dBrk : DS := fun DD Γ S => DD.bk Γ S
def dCnt : DS := fun DD Γ S => DD.ct Γ S
theorem ps_dpass : PSD X B (.Pass pos) dPass := PS.weak ps_pass fun Dn σ H h => by
  obtain ⟨Z, S, Γ, fp, ofp, DD, r, h, ok⟩ := h
  exact ok.nx _ _ _ _ _ _ _ r h
theorem ps_dbrk : PSD X B (.Break pos) dBrk := PS.weak ps_break fun Dn σ H h => by
  obtain ⟨Z, S, Γ, fp, ofp, DD, r, h, ok⟩ := h
  exact ok.bk _ _ _ _ _ _ _ r h
theorem ps_dcnt : PSD X B (.Continue pos) dCnt := PS.weak ps_continue fun Dn σ H h => by
  obtain ⟨Z, S, Γ, fp, ofp, DD, r, h, ok⟩ := h
  exact ok.ct _ _ _ _ _ _ _ r h
def dDrop (te : DE) : DS := fun DD Γ S => te Γ S fun _ S1 => DD.nx Γ S1
theorem ps_ddrop (he : PD X B e te) (hs : swapsWith e none pos.line X.env = pure false := by rfl) : PSD X B (.Expr e pos) (dDrop te) := PS.weak (ps_expr he hs) fun Dn σ H h => by
  obtain ⟨Z, S, Γ, fp, ofp, DD, r, h, ok⟩ := h
  exact ⟨Z, S, Γ, fp, ofp, _, r, h, fun d S' p Z' H' fp' v r' l dv => ok.nx _ _ _ _ _ _ _ r' p⟩
def dRet (te : DE) : DS := fun DD Γ S => te Γ S fun x S1 => DD.rt (.d x) S1
theorem ps_dret (he : PD X B e te) : PSD X B (.Return (some e) pos) (dRet te) := PS.weak (ps_ret he) fun Dn σ H h => by
  obtain ⟨Z, S, Γ, fp, ofp, DD, r, h, ok⟩ := h
  exact ⟨Z, S, Γ, fp, ofp, _, r, h, fun d S' p Z' H' fp' v r' l dv => ok.rt _ _ _ _ _ _ _ (.d d) v r' dv p⟩
/-- a fresh list handed back, the caller's own -/
def dRetF (to : DA) : DS := fun DD Γ S => to Γ S fun ds S1 => DD.rt (.own ds) S1
theorem ps_dretF (he : PF X B e to) : PSD X B (.Return (some e) pos) (dRetF to) := PS.weak (ps_ret he) fun Dn σ H h => by
  obtain ⟨Z, S, Γ, fp, ofp, DD, r, h, ok⟩ := h
  exact ⟨Z, S, Γ, fp, ofp, _, r, h, fun ds S' p Z' H' fp' a xs r' l e1 d1 n1 n2 n3 n4 => ok.rt _ _ _ _ _ _ _ (.own ds) _ r' ⟨a, xs, rfl, e1, d1, n1, n2, r.ext.there _ n4⟩ p⟩
/-- a slot's own list handed back -/
def dRetO (i : Nat) : DS := fun DD Γ S => match slotAt Γ i with
  | some (.own ds) => DD.rt (.own ds) S
  | _ => False
theorem ps_dretO (i : Nat) {x : Str} {p : Pos} (hN : X.N[i]? = some x := by rfl) (hv : Vis X.env.scope x := by first | exact Or.inl rfl | exact Or.inr (Or.inl rfl) | exact Or.inr (Or.inr rfl)) (hd : (x == ("__debug__" : Str)) = false := by decide)
    (hcd : (x == ("__classdict__" : Str)) = false := by decide) : PSD X B (.Return (some (.Name x p)) pos) (dRetO i) := PS.weak (ps_ret (pe_var hN hv hd hcd)) fun Dn σ H h => by
  obtain ⟨Z, S, Γ, fp, ofp, DD, r, h, ok⟩ := h
  unfold dRetO at h
  split at h
  · rename_i ds e0
    obtain ⟨a, xs, e1, h1, d1, k⟩ := r.write (ds' := []) e0
    refine ⟨_, e1, ?_⟩
    obtain ⟨v, bs, e2, w, hb⟩ := r.gm.get e0
    rw [e1] at e2
    cases e2
    cases w with
    | own h2 d2 =>
      have m := hb a (List.mem_singleton.mpr rfl)
      have n' := List.nodup_append.mp r.nd
      have nf : a ∉ fp := fun z => n'.2.2 a z a m rfl
      exact ok.rt _ _ _ _ _ _ _ (.own ds) _ r ⟨a, xs, rfl, h1, d1, r.nf a (List.mem_append_right _ m), nf, r.of a m⟩ h
  · exact h.elim

/-! ### stores -/
def dSet (i : Nat) (te : DE) : DS := fun DD Γ S => te Γ S fun x S1 => DD.nx (Γ.set i (some (.d x))) S1
def dSetF (i : Nat) (to : DA) : DS := fun DD Γ S => to Γ S fun ds S1 => DD.nx (Γ.set i (some (.own ds))) S1
theorem ps_dset (i : Nat) {x : Str} {pos' : Pos} (hN : X.N.Nodup) (he : PD X B e te) (hi : X.N[i]? = some x := by rfl) (hx : Loc X.env.scope x := by first | exact Or.inl rfl | exact Or.inr rfl) (hs : swapsWith e (some (.Name x pos')) pos.line X.env = pure false := by rfl)
    (hf : X.fn x = true ∨ X.env.scope.names.lookup x = some .local := by first | exact .inl rfl | exact .inr rfl | assumption) : PSD X B (.Assign [.Name x pos'] e pos) (dSet i te) := PS.weak (ps_set hN hi hx he hs hf) fun Dn σ H h => by
  obtain ⟨Z, S, Γ, fp, ofp, DD, r, h, ok⟩ := h
  refine ⟨Z, S, Γ, fp, ofp, _, r, h, fun d S' p Z' H' fp' v r' l dv => ?_⟩
  obtain ⟨ofp', r2, _⟩ := r'.setD i dv
  exact ok.nx _ _ _ _ _ _ _ r2 p
theorem ps_dsetF (i : Nat) {x : Str} {pos' : Pos} (hN : X.N.Nodup) (he : PF X B e to) (hi : X.N[i]? = some x := by rfl) (hx : Loc X.env.scope x := by first | exact Or.inl rfl | exact Or.inr rfl) (hs : swapsWith e (some (.Name x pos')) pos.line X.env = pure false := by rfl)
    (hf : X.fn x = true ∨ X.env.scope.names.lookup x = some .local := by first | exact .inl rfl | exact .inr rfl | assumption) : PSD X B (.Assign [.Name x pos'] e pos) (dSetF i to) := PS.weak (ps_set hN hi hx he hs hf) fun Dn σ H h => by
  obtain ⟨Z, S, Γ, fp, ofp, DD, r, h, ok⟩ := h
  refine ⟨Z, S, Γ, fp, ofp, _, r, h, fun ds S' p Z' H' fp' a xs r' l e1 d1 n1 n2 n3 n4 => ?_⟩
  obtain ⟨ofp', r2⟩ := r'.setO i e1 d1 n1 n2 n3 (r.ext.there _ n4)
  exact ok.nx _ _ _ _ _ _ _ r2 p
/-- x.append(e), x a slot's own list -/
def dApp (i : Nat) (te : DE) : DS := fun DD Γ S => match slotAt Γ i with
  | some (.own ds) => te Γ S fun y S1 => sz (ds.length + 1) ∧ DD.nx (Γ.set i (some (.own (ds ++ [y])))) S1
  | _ => False
theorem ps_dapp (i : Nat) {x : Str} {p1 p2 p3 : Pos} (he : PD X B e te)
    (h : ∀ {te' : TE}, PE X e te' → PS X (.Expr (.Call (.Attribute (.Name x p1) "append" p2) [e] [] p3) pos) (tDrop (tBM X.K "list" rAppend (tVar i) (tCons te' tNil))) := by
      exact fun h => ps_expr (pe_bm PySem.F.plainAttrs_list PySem.F.slot_list_append PySem.F.type_list_append mt_append (pv _) (pa_cons h pa_nil))) :
    PSD X B (.Expr (.Call (.Attribute (.Name x p1) "append" p2) [e] [] p3) pos) (dApp i te) := PS.weak (h he) fun Dn σ H h => by
  obtain ⟨Z, S, Γ, fp, ofp, DD, r, h, ok⟩ := h
  unfold dApp at h
  split at h
  · rename_i ds e0
    obtain ⟨a, xs, e1, h1, d1, k⟩ := r.write (ds' := []) e0
    refine ⟨_, e1, .inl ⟨rfl, _, SqL.of h1⟩, ?_⟩
    refine ⟨Z, S, Γ, fp, ofp, _, r, h, fun d S' p Z' H' fp' v r' l dv => ?_⟩
    obtain ⟨s1, p⟩ := p
    obtain ⟨a', xs', e1', h1', d1', k'⟩ := r'.write (ds' := ds ++ [d]) e0
    rw [e1] at e1'
    cases e1'
    refine ⟨a, xs', v, rfl, rfl, h1', ?_, ?_⟩
    · rw [d1'.length]
      exact Nat.lt_of_lt_of_le (Nat.lt_succ_self _) s1.ok
    · exact ok.nx _ _ _ _ _ _ _ (k' _ (d1'.append (.cons dv .nil))) p
  · exact h.elim
/-- x[j] = e, x a slot's own list -/
def ixSet (i : Nat) (ds : List D) (y k : D) (Q : Gm → Prop) (Γ : Gm) : Prop := ∃ n : Int, k = .int n ∧ ∃ j : Nat, ixN ds.length n = some j ∧ Q (Γ.set i (some (.own (ds.set j y))))
def dIxSet (i : Nat) (ti te : DE) : DS := fun DD Γ S => match slotAt Γ i with
  | some (.own ds) => te Γ S fun y S1 => ti Γ S1 fun k S2 => ixSet i ds y k (fun Γ' => DD.nx Γ' S2) Γ
  | _ => False
theorem ps_dixset (i : Nat) {x : Str} {p1 p2 : Pos} {ix : Expr} {ti : DE} (he : PD X B e te) (hi : PD X B ix ti)
    (h : ∀ {te' ti' : TE}, PE X e te' → PE X ix ti' → PS X (.Assign [.Subscript (.Name x p1) ix p2] e pos) (tAsg te' (gSub (tVar i) ti' rSetL)) := by exact fun h h' => ps_asg h (pg_sub (pv _) h' set_list)) :
    PSD X B (.Assign [.Subscript (.Name x p1) ix p2] e pos) (dIxSet i ti te) := PS.weak (h he hi) fun Dn σ H h => by
  obtain ⟨Z, S, Γ, fp, ofp, DD, r, h, ok⟩ := h
  have own : ∃ ds, slotAt Γ i = some (.own ds) := by
    unfold dIxSet at h
    split at h
    · exact ⟨_, by assumption⟩
    · exact h.elim
  obtain ⟨ds, e0⟩ := own
  unfold dIxSet at h
  rw [e0] at h
  refine ⟨Z, S, Γ, fp, ofp, _, r, h, fun y S1 p1 Z1 H1 fp1 v1 r1 l1 dv1 => ?_⟩
  obtain ⟨a, xs, e1, h1, d1, k⟩ := r1.write (ds' := []) e0
  refine ⟨_, e1, ?_⟩
  refine ⟨Z1, S1, Γ, fp1, ofp, _, r1, p1, fun q S2 p2 Z2 H2 fp2 v2 r2 l2 dv2 => ?_⟩
  obtain ⟨n, rfl, j, ej, p2⟩ := p2
  cases dv2
  obtain ⟨a', xs', e1', h1', d1', k'⟩ := r2.write (ds' := ds.set j y) e0
  rw [e1] at e1'
  cases e1'
  refine ⟨a, xs', n, j, rfl, rfl, h1', by rw [d1'.length]; exact ej, ?_⟩
  exact ok.nx _ _ _ _ _ _ _ (k' _ (d1'.set j (dv1.up l2))) p2

/-! ### if -/
def dIfS (t : DT) (ts tu : DS) : DS := fun DD Γ S => t Γ S fun c S1 => (c = true → ts DD Γ S1) ∧ (c = false → tu DD Γ S1)
theorem ps_dif {sa sb : List Stmt} (hc : PTD X B c tt) (ha : PSsD X B sa ts) (hb : PSsD X B sb tu) : PSD X B (.If c sa sb pos) (dIfS tt ts tu) := PS.weak (ps_if hc ha hb) fun Dn σ H h => by
  obtain ⟨Z, S, Γ, fp, ofp, DD, r, h, ok⟩ := h
  refine ⟨Z, S, Γ, fp, ofp, _, r, h, fun k S1 h1 Z1 H1 fp1 r1 l1 => ?_⟩
  cases k with
  | true => exact iteT ⟨Z1, S1, Γ, fp1, ofp, DD, r1, h1.1 rfl, ok⟩
  | false => exact iteF ⟨Z1, S1, Γ, fp1, ofp, DD, r1, h1.2 rfl, ok⟩

/-! ### targets -/
abbrev DG := D → Gm → (Gm → Prop) → Prop
/-- a target's reading on data -/
def GOk (K : PySem.W.Frag) (B : Bs) (g : TG) (dg : DG) : Prop :=
  ∀ {Z : Fz} {S : Sto} {Γ : Gm} {σ : L2.St} {H : Hp} {fp ofp : List Addr} {v : V} {x : D} {P : Gm → Prop} {Q : L2.St → Hp → Prop}, R K B Z S Γ σ H fp ofp → DV K Z v x → dg x Γ P →
    (∀ Γ', P Γ' → ∀ σ' Z' ofp', R K B Z' S Γ' σ' H fp ofp' → Z.le Z' → Q σ' H) → g v σ H Q
def PGD (X : Cx) (tg : Expr) (dg : DG) : Prop := ∃ g, PG X tg g ∧ ∀ B, GOk X.K B g dg
def dgName (i : Nat) : DG := fun x Γ P => P (Γ.set i (some (.d x)))
theorem pg_dname (i : Nat) {x : Str} (hN : X.N.Nodup) (hi : X.N[i]? = some x := by rfl) (hx : Loc X.env.scope x := by first | exact Or.inl rfl | exact Or.inr rfl) (hf : X.fn x = true ∨ X.env.scope.names.lookup x = some .local := by first | exact .inl rfl | exact .inr rfl | assumption) : PGD X (.Name x pos) (dgName i) :=
  ⟨gName i, pg_name hN hi hx hf, fun B {Z S Γ σ H fp ofp v x P Q} r dv h q => by
    obtain ⟨ofp', r2, _⟩ := r.setD i dv
    exact q _ h _ _ _ r2 (.refl _)⟩
abbrev DGs := List D → Gm → (Gm → Prop) → Prop
def GsOk (K : PySem.W.Frag) (B : Bs) (g : TGs) (dg : DGs) : Prop :=
  ∀ {Z : Fz} {S : Sto} {Γ : Gm} {σ : L2.St} {H : Hp} {fp ofp : List Addr} {vs : List V} {xs : List D} {P : Gm → Prop} {Q : L2.St → Hp → Prop}, R K B Z S Γ σ H fp ofp → DVs K Z vs xs → dg xs Γ P →
    (∀ Γ', P Γ' → ∀ σ' Z' ofp', R K B Z' S Γ' σ' H fp ofp' → Z.le Z' → Q σ' H) → g vs σ H Q
def PGsD (X : Cx) (tg : List Expr) (dg : DGs) : Prop := ∃ g, PGs X tg g ∧ ∀ B, GsOk X.K B g dg
def dgNil : DGs := fun xs Γ P => match xs with
  | [] => P Γ
  | _ => False
def dgCons (dg : DG) (dr : DGs) : DGs := fun xs Γ P => match xs with
  | x :: r => dg x Γ fun Γ1 => dr r Γ1 P
  | [] => False
theorem pgs_dnil : PGsD X [] dgNil := ⟨gNil, pgs_nil, fun B {Z S Γ σ H fp ofp vs xs P Q} r dv h q => by
  cases dv with
  | nil => exact ⟨rfl, q _ h _ _ _ r (.refl _)⟩
  | cons _ _ => exact False.elim h⟩
theorem pgs_dcons {tg : Expr} {tgs : List Expr} {dg : DG} {dr : DGs} (h1 : PGD X tg dg) (h2 : PGsD X tgs dr)
    (k : ∀ {t : TG} {u : TGs}, PG X tg t → PGs X tgs u → PGs X (tg :: tgs) (gCons t u) := by exact fun h h' => pgs_cons h h') : PGsD X (tg :: tgs) (dgCons dg dr) := by
  obtain ⟨g, p, o⟩ := h1
  obtain ⟨gs, ps, os⟩ := h2
  refine ⟨gCons g gs, k p ps, fun B {Z S Γ σ H fp ofp vs xs P Q} r dv h q => ?_⟩
  cases dv with
  | nil => exact False.elim h
  | cons d1 d2 => exact ⟨_, _, rfl, o B r d1 h fun Γ' p' σ' Z' ofp' r' l' => os B r' (d2.mono l') p' fun Γ2 p2 σ2 Z2 ofp2 r2 l2 => q _ p2 _ _ _ r2 (l'.trans l2)⟩
def dgTup (n : Nat) (dr : DGs) : DG := fun x Γ P => match x with
  | .tup xs => xs.length = n ∧ dr xs Γ P
  | _ => False
theorem pg_dtup {tgs : List Expr} {k n : Nat} {dr : DGs} (hc : X.calm = true) (h : PGsD X tgs dr)
    (kk : ∀ {u : TGs}, X.calm = true → PGs X tgs u → PG X (.Tuple tgs k pos) (gTup X.K n u) := by exact fun hc h => pg_tup hc h) : PGD X (.Tuple tgs k pos) (dgTup n dr) := by
  obtain ⟨gs, ps, os⟩ := h
  refine ⟨gTup X.K n gs, kk hc ps, fun B {Z S Γ σ H fp ofp v x P Q} r dv h q => ?_⟩
  cases dv with
  | tup h1 h2 =>
    obtain ⟨e, h⟩ := h
    exact ⟨_, _, rfl, same_sqT r.fr h1, by rw [h2.length]; exact e, os B r h2 h q⟩
  | _ => exact False.elim h
/-- target = e -/
def dAsg (dg : DG) (te : DE) : DS := fun DD Γ S => te Γ S fun x S1 => dg x Γ fun Γ1 => DD.nx Γ1 S1
theorem ps_dasg {tg : Expr} {dg : DG} (he : PD X B e te) (hg : PGD X tg dg) (hs : swapsWithSole [tg] e pos.line X.env = pure false := by rfl) (hw : swappedStores [tg] e X.env = pure none := by rfl) (h1 : (assignEach [tg] X.env).map (·.2) = [assign tg X.env] := by rfl) : PSD X B (.Assign [tg] e pos) (dAsg dg te) := by
  obtain ⟨g, p, o⟩ := hg
  exact PS.weak (ps_asg he p hs hw h1) fun Dn σ H h => by
    obtain ⟨Z, S, Γ, fp, ofp, DD, r, h, ok⟩ := h
    refine ⟨Z, S, Γ, fp, ofp, _, r, h, fun d S' p Z' H' fp' v r' l dv => ?_⟩
    exact o B r' dv p fun Γ' p' σ' Z2 ofp' r2 l2 => ok.nx _ _ _ _ _ _ _ r2 p'

/-! ### what is walked -/
def ItOk (K : PySem.W.Frag) (B : Bs) (Z0 : Fz) (J : It) (xs : List D) : Prop := ∀ (i : Nat) (Z : Fz) (S : Sto) (Γ : Gm) (σ : L2.St) (H : Hp) (fp ofp : List Addr), R K B Z S Γ σ H fp ofp → Z0.le Z →
  (∀ x, xs[i]? = some x → J.go i H ∧ ∀ v H', J.yld i H v H' → ∃ Z', R K B Z' S Γ σ H' fp ofp ∧ Up Z H fp Z' H' fp ∧ DV K Z' v x) ∧ (xs[i]? = none → J.stop i H)
def liftI (K : PySem.W.Frag) (B : Bs) (wi : DA) : TI := fun σ H Rr => ∃ Z S Γ fp ofp P, R K B Z S Γ σ H fp ofp ∧ wi Γ S P ∧
  ∀ xs S', P xs S' → ∀ Z' H' fp', R K B Z' S' Γ σ H' fp' ofp → Up Z H fp Z' H' fp' → ∀ J, ItOk K B Z' J xs → Rr J H'
abbrev PID (X : Cx) (B : Bs) (tg iter : Expr) (wi : DA) : Prop := PI X tg iter (liftI X.K B wi)
theorem PI.weak {X : Cx} {tg iter : Expr} {t t' : TI} (h : PI X tg iter t) (k : ∀ σ H Q, t' σ H Q → t σ H Q) : PI X tg iter t' := ⟨fun pins s σ H Q I q => h.run pins s σ H Q I (k _ _ _ q)⟩
theorem it_list {K : PySem.W.Frag} {B : Bs} {Z : Fz} {a : Addr} {us : List V} {xs : List D} (h : SqL K Z.F a us) (d : DVs K Z us xs) : ItOk K B Z (Itl K a) xs := fun i Z1 S Γ σ H fp ofp r l => by
  have hH : SqL K H a us := same_sqL (fun b o e => r.fr b o (l.f b o e)) h
  refine ⟨fun x e => ?_, fun e => ⟨us, hH, ?_⟩⟩
  · obtain ⟨v, e1, dv⟩ := d.getD e
    refine ⟨⟨us, v, hH, e1⟩, fun w H' y => ?_⟩
    obtain ⟨rfl, y⟩ := y
    have e2 := y us hH
    rw [e1] at e2
    cases e2
    exact ⟨Z1, r, .refl _ _ _, dv.mono l⟩
  · rw [d.length]
    exact List.getElem?_eq_none_iff.mp e
theorem it_tup {K : PySem.W.Frag} {B : Bs} {Z : Fz} {a : Addr} {us : List V} {xs : List D} (h : SqT K Z.F a us) (d : DVs K Z us xs) : ItOk K B Z (Itt K a) xs := fun i Z1 S Γ σ H fp ofp r l => by
  have hH : SqT K H a us := same_sqT (fun b o e => r.fr b o (l.f b o e)) h
  refine ⟨fun x e => ?_, fun e => ⟨us, hH, ?_⟩⟩
  · obtain ⟨v, e1, dv⟩ := d.getD e
    refine ⟨⟨us, v, hH, e1⟩, fun w H' y => ?_⟩
    obtain ⟨rfl, y⟩ := y
    have e2 := y us hH
    rw [e1] at e2
    cases e2
    exact ⟨Z1, r, .refl _ _ _, dv.mono l⟩
  · rw [d.length]
    exact List.getElem?_eq_none_iff.mp e
def intsFrom (lo : Int) : Nat → List D
  | 0 => []
  | n + 1 => .int lo :: intsFrom (lo + 1) n
theorem intsFrom_get : ∀ (n : Nat) (lo : Int) (i : Nat), (intsFrom lo n)[i]? = if i < n then some (.int (lo + i)) else none
  | 0, lo, i => by simp [intsFrom]
  | n + 1, lo, 0 => by simp [intsFrom]
  | n + 1, lo, i + 1 => by
    show (intsFrom (lo + 1) n)[i]? = _
    rw [intsFrom_get n (lo + 1) i]
    by_cases h : i < n
    · rw [if_pos h, if_pos (by omega)]
      have : lo + 1 + (i : Int) = lo + ((i + 1 : Nat) : Int) := by omega
      rw [this]
    · rw [if_neg h, if_neg (by omega)]
theorem it_range {K : PySem.W.Frag} {B : Bs} {Z : Fz} {lo : Int} {n : Nat} : ItOk K B Z (Itr lo n) (intsFrom lo n) := fun i Z1 S Γ σ H fp ofp r l => by
  rw [intsFrom_get]
  refine ⟨fun x e => ?_, fun e => ?_⟩
  · by_cases h : i < n
    · rw [if_pos h] at e
      cases e
      refine ⟨h, fun w H' y => ?_⟩
      obtain ⟨rfl, rfl⟩ := y
      exact ⟨Z1, r, .refl _ _ _, .int _⟩
    · rw [if_neg h] at e
      cases e
  · show n ≤ i
    by_cases h : i < n
    · rw [if_pos h] at e
      cases e
    · omega
/-- over a list, a tuple -/
def dWl (te : DE) : DA := fun Γ S Q => te Γ S fun x S1 => match x with
  | .lst ds => Q ds S1
  | _ => False
def dWt (te : DE) : DA := fun Γ S Q => te Γ S fun x S1 => match x with
  | .tup ds => Q ds S1
  | _ => False
theorem pi_dlist {tg : Expr} (he : PD X B e te) : PID X B tg e (dWl te) := PI.weak (pi_list he) fun σ H Rr h => by
  obtain ⟨Z, S, Γ, fp, ofp, P, r, h, q⟩ := h
  refine ⟨Z, S, Γ, fp, ofp, _, r, h, fun d S1 p1 Z1 H1 fp1 v1 r1 l1 dv1 => ?_⟩
  cases dv1 with
  | lst h1 d1 => exact ⟨_, rfl, ⟨_, same_sqL r1.fr h1⟩, q _ S1 p1 Z1 H1 fp1 r1 l1 _ (it_list h1 d1)⟩
  | _ => exact False.elim p1
theorem pi_dtup {tg : Expr} (he : PD X B e te) : PID X B tg e (dWt te) := PI.weak (pi_tup he) fun σ H Rr h => by
  obtain ⟨Z, S, Γ, fp, ofp, P, r, h, q⟩ := h
  refine ⟨Z, S, Γ, fp, ofp, _, r, h, fun d S1 p1 Z1 H1 fp1 v1 r1 l1 dv1 => ?_⟩
  cases dv1 with
  | tup h1 d1 => exact ⟨_, rfl, ⟨_, same_sqT r1.fr h1⟩, q _ S1 p1 Z1 H1 fp1 r1 l1 _ (it_tup h1 d1)⟩
  | _ => exact False.elim p1
def dRng1 (tr : DA) : DA := fun Γ S Q => tr Γ S fun xs S1 => match xs with
  | [.int n] => -(2 ^ 62) ≤ n ∧ n < 2 ^ 62 ∧ Q (intsFrom 0 n.toNat) S1
  | _ => False
def dRng2 (tr : DA) : DA := fun Γ S Q => tr Γ S fun xs S1 => match xs with
  | [.int i, .int j] => (-(2 ^ 62) ≤ i ∧ i < 2 ^ 62 ∧ -(2 ^ 62) ≤ j ∧ j < 2 ^ 62) ∧ Q (intsFrom i (j - i).toNat) S1
  | _ => False
theorem pi_drange1 {tg : Expr} {p : Pos} {tr : DA} (hg : Gl X "range") (hm : X.mg "range" = none) (ha : PAD X B [a] tr) (hs : starEach [a] X.env = [(false, eval a X.env)] := by rfl) : PID X B tg (.Call (.Name "range" p) [a] [] pos) (dRng1 tr) :=
  PI.weak (pi_range1 hg hm ha hs) fun σ H Rr h => by
  obtain ⟨Z, S, Γ, fp, ofp, P, r, h, q⟩ := h
  refine ⟨Z, S, Γ, fp, ofp, _, r, h, fun xs S1 p1 Z1 H1 fp1 v1 r1 l1 dv1 => ?_⟩
  revert p1
  show _ → _
  intro p1
  split at p1
  · cases dv1 with
    | cons d1 d2 =>
      cases d1
      cases d2
      exact ⟨_, rfl, p1.1, p1.2.1, q _ S1 p1.2.2 Z1 H1 fp1 r1 l1 _ it_range⟩
  · exact p1.elim
theorem pi_drange2 {tg : Expr} {p : Pos} {tr : DA} (hg : Gl X "range") (hm : X.mg "range" = none) (ha : PAD X B [a, b] tr) (hs : starEach [a, b] X.env = [(false, eval a X.env), (false, eval b X.env)] := by rfl) (hs2 : starEach [b] X.env = [(false, eval b X.env)] := by rfl) :
    PID X B tg (.Call (.Name "range" p) [a, b] [] pos) (dRng2 tr) :=
  PI.weak (pi_range2 hg hm ha hs hs2) fun σ H Rr h => by
  obtain ⟨Z, S, Γ, fp, ofp, P, r, h, q⟩ := h
  refine ⟨Z, S, Γ, fp, ofp, _, r, h, fun xs S1 p1 Z1 H1 fp1 v1 r1 l1 dv1 => ?_⟩
  revert p1
  show _ → _
  intro p1
  split at p1
  · cases dv1 with
    | cons d1 d2 =>
      cases d1
      cases d2 with
      | cons d3 d4 =>
        cases d3
        cases d4
        exact ⟨_, _, rfl, p1.1, q _ S1 p1.2 Z1 H1 fp1 r1 l1 _ it_range⟩
  · exact p1.elim

/-! ### for -/
def forL (dg : DG) (body : DS) : List D → DS
  | [], DD, Γ, S => DD.nx Γ S
  | x :: r, DD, Γ, S => dg x Γ fun Γ1 => body { DD with nx := forL dg body r DD, ct := forL dg body r DD, bk := DD.nx } Γ1 S
def dFor (wi : DA) (dg : DG) (body : DS) : DS := fun DD Γ S => wi Γ S fun xs S1 => forL dg body xs DD Γ S1
theorem ps_dfor {iter tg : Expr} {body : List Stmt} {wi : DA} {dg : DG} (hp : PassesOwn (model X.prog X.w) X.A X.env X.xe) (hc : X.calm = true) (hi : PID X B tg iter wi) (hg : PGD X tg dg) (hb : ∀ B', B.up B' → PSsD X B' body ts)
    (k : ∀ {wi' : TI} {g' : TG} {tb' : TS}, PassesOwn (model X.prog X.w) X.A X.env X.xe → X.calm = true → PI X tg iter wi' → PG X tg g' → PSs X body tb' → PS X (.For tg iter body [] pos) (tFor wi' g' tb') := by exact fun h1 h2 h h' h'' => ps_for h1 h2 h h' h'') :
    PSD X B (.For tg iter body [] pos) (dFor wi dg ts) := by
  obtain ⟨g, p, o⟩ := hg
  refine ⟨fun pins s σ H Dn I h => ?_⟩
  refine (k (tb' := fun Dn' σ' H' => ∃ B', B.up B' ∧ liftS X.K B' ts Dn' σ' H') hp hc hi p ⟨fun pins s σ H D I ⟨B', u, h⟩ => (hb B' u).run pins s σ H D I h⟩).run pins s σ H Dn I ?_
  obtain ⟨Z, S, Γ, fp, ofp, DD, r, h, ok⟩ := h
  refine ⟨Z, S, Γ, fp, ofp, _, r, h, fun xs S1 p1 Z1 H1 fp1 r1 l1 J hJ => ?_⟩
  refine ⟨fun i m σ' H' => m = xs.length - i ∧ i ≤ xs.length ∧ ∃ Z' S' Γ' fp' ofp', R X.K B Z' S' Γ' σ' H' fp' ofp' ∧ Z1.le Z' ∧ forL dg ts (xs.drop i) DD Γ' S',
    ⟨_, rfl, Nat.zero_le _, Z1, S1, Γ, fp1, ofp, r1, .refl _, p1⟩, ?_⟩
  rintro i m σ' H' ⟨rfl, hi, Z', S', Γ', fp', ofp', r', l', q'⟩
  obtain ⟨yes, no⟩ := hJ i Z' S' Γ' σ' H' fp' ofp' r' l'
  by_cases hlt : i < xs.length
  · have e : xs.drop i = xs[i] :: xs.drop (i + 1) := List.drop_eq_getElem_cons hlt
    rw [e] at q'
    obtain ⟨go, yld⟩ := yes xs[i] (List.getElem?_eq_getElem hlt)
    refine .inr ⟨go, fun σ2 H2 => ∃ Z' S' Γ' fp' ofp', R X.K B Z' S' Γ' σ2 H2 fp' ofp' ∧ Z1.le Z' ∧ forL dg ts (xs.drop (i + 1)) DD Γ' S', fun σ2 H2 n => ⟨xs.length - (i + 1), by omega, rfl, hlt, n⟩, fun v H2 y => ?_⟩
    obtain ⟨Z2, r2, l2, dv⟩ := yld v H2 y
    have up2 : B.up (B.at Z2) := Bs.at_up r2.ext.fl
    refine o (B.at Z2) (r2.raise (.refl _)) dv q' fun Γ3 p3 σ3 Z3 ofp3 r3 l3 => ?_
    refine ⟨B.at Z2, up2, Z3, S', Γ3, fp', ofp3, _, r3, p3, ?_⟩
    have ll : Z1.le Z2 := l'.trans l2.le
    exact ⟨fun Z4 S4 Γ4 σ4 H4 fp4 ofp4 r4 n4 => ⟨Z4, S4, Γ4, fp4, ofp4, r4.lower up2, ll.trans r4.ext.fl, n4⟩, fun Z4 S4 Γ4 σ4 H4 fp4 ofp4 r4 n4 => ok.nx Z4 S4 Γ4 σ4 H4 fp4 ofp4 (r4.lower up2) n4,
      fun Z4 S4 Γ4 σ4 H4 fp4 ofp4 r4 n4 => ⟨Z4, S4, Γ4, fp4, ofp4, r4.lower up2, ll.trans r4.ext.fl, n4⟩, fun Z4 S4 Γ4 σ4 H4 fp4 ofp4 w4 v4 r4 b4 n4 => ok.rt Z4 S4 Γ4 σ4 H4 fp4 ofp4 w4 v4 (r4.lower up2) (by cases w4 <;> exact b4) n4⟩
  · have e : xs.drop i = [] := List.drop_eq_nil_of_le (by omega)
    rw [e] at q'
    exact .inl ⟨no (List.getElem?_eq_none (by omega)), ok.nx _ _ _ _ _ _ _ r' q'⟩
end
end DL
namespace DL
open PySem PySem.Spec PyProof.Rows L2
section
variable {X : Cx} {B : Bs} {a b c e : Expr} {te : DE} {to : DA} {tt : DT} {pos : Pos} {ts tu : DS} {st : Stmt} {rest : List Stmt}
/-! ### while -/
def whileL (t : DT) (body : DS) : Nat → DS
  | 0, _, _, _ => False
  | n + 1, DD, Γ, S => t Γ S fun b S1 => (b = true → body { DD with nx := whileL t body n DD, ct := whileL t body n DD, bk := DD.nx } Γ S1) ∧ (b = false → DD.nx Γ S1)
def dWhile (t : DT) (body : DS) : DS := fun DD Γ S => ∃ n, whileL t body n DD Γ S
theorem ps_dwhile {body : List Stmt} (hp : PassesOwn (model X.prog X.w) X.A X.env X.xe) (hc : PTD X B c tt) (hb : PSsD X B body ts) : PSD X B (.While c body [] pos) (dWhile tt ts) :=
  PS.weak (ps_while hp hc hb) fun Dn σ H h => by
  obtain ⟨Z, S, Γ, fp, ofp, DD, r, ⟨n, h⟩, ok⟩ := h
  refine ⟨fun m σ' H' => ∃ Z' S' Γ' fp' ofp', R X.K B Z' S' Γ' σ' H' fp' ofp' ∧ whileL tt ts m DD Γ' S', ⟨n, Z, S, Γ, fp, ofp, r, h⟩, ?_⟩
  rintro m σ' H' ⟨Z', S', Γ', fp', ofp', r', q'⟩
  cases m with
  | zero => exact False.elim q'
  | succ m =>
    refine ⟨Z', S', Γ', fp', ofp', _, r', q', fun k S1 h1 Z1 H1 fp1 r1 l1 => ?_⟩
    cases k with
    | false => exact iteF (ok.nx _ _ _ _ _ _ _ r1 (h1.2 rfl))
    | true =>
      refine iteT ⟨fun σ2 H2 => ∃ Z2 S2 Γ2 fp2 ofp2, R X.K B Z2 S2 Γ2 σ2 H2 fp2 ofp2 ∧ whileL tt ts m DD Γ2 S2, fun σ2 H2 n => ⟨m, Nat.lt_succ_self _, n⟩, ?_⟩
      exact ⟨Z1, S1, Γ', fp1, ofp', _, r1, h1.1 rfl, ⟨fun Z4 S4 Γ4 σ4 H4 fp4 ofp4 r4 n4 => ⟨Z4, S4, Γ4, fp4, ofp4, r4, n4⟩, fun Z4 S4 Γ4 σ4 H4 fp4 ofp4 r4 n4 => ok.nx Z4 S4 Γ4 σ4 H4 fp4 ofp4 r4 n4,
        fun Z4 S4 Γ4 σ4 H4 fp4 ofp4 r4 n4 => ⟨Z4, S4, Γ4, fp4, ofp4, r4, n4⟩, fun Z4 S4 Γ4 σ4 H4 fp4 ofp4 w4 v4 r4 n4 => ok.rt Z4 S4 Γ4 σ4 H4 fp4 ofp4 w4 v4 r4 n4⟩⟩

/-! ### comprehensions -/
def wipeG (Γ : Gm) : List Nat → Gm
  | [] => Γ
  | v :: vs => (wipeG Γ vs).set v none
theorem R.wipe {K : PySem.W.Frag} {Z : Fz} {S : Sto} {Γ : Gm} {σ : L2.St} {H : Hp} {fp ofp : List Addr} (r : R K B Z S Γ σ H fp ofp) : ∀ vs : List Nat, ∃ ofp', R K B Z S (wipeG Γ vs) (L2.wipe σ vs) H fp ofp' ∧ ∀ a ∈ ofp', a ∈ ofp
  | [] => ⟨ofp, r, fun _ m => m⟩
  | v :: vs => by
    obtain ⟨o1, r1, s1⟩ := R.wipe r vs
    obtain ⟨o2, r2, s2⟩ := r1.del v none
    exact ⟨o2, r2, fun a m => s1 a (s2 a m)⟩
/-- what isn't ours is another -/
theorem R.other {K : PySem.W.Frag} {Z : Fz} {S : Sto} {Γ : Gm} {σ : L2.St} {H : Hp} {fp ofp : List Addr} (r : R K B Z S Γ σ H fp ofp) {p : Addr} {o : HO} (h1 : p ∉ fp) (h2 : p ∉ ofp) (hf : Z.F p = none) (hb : B.H p = none) : R K B Z S Γ σ (upd H p o) fp ofp := by
  have ks : ∀ a u, a ≠ p → H a = some u → upd H p o a = some u := fun a u n e => by
    rw [upd_ne n]
    exact e
  refine ⟨r.kk, fun b u e => ks _ _ (fun z => by rw [z, hf] at e; cases e) (r.fr b u e), r.st.mono (.refl _) (by have := r.kk; omega) fun a m u e => ks a u (fun z => h1 (by rw [← z]; exact m)) e,
    r.gm.mono (.refl _) fun a m u e => ks a u (fun z => h2 (by rw [← z]; exact m)) e, r.nd, r.nf, ⟨r.ext.le, r.ext.fl, fun a u e n => ks _ _ (fun z => by rw [z, hb] at e; cases e) (r.ext.keep a u e n), fun a e => ?_, r.ext.new, r.ext.frz⟩, r.of⟩
  by_cases z : a = p
  · rw [z]
    exact hb
  · rw [upd_ne z] at e
    exact r.ext.there a e
/-- the items in a row -/
def compL (dg : DG) (t : DT) (te : DE) : List D → Gm → List D → Sto → (List D → Sto → Prop) → Prop
  | [], _, acc, S, Q => Q acc S
  | x :: r, Γ, acc, S, Q => dg x Γ fun Γ1 => t Γ1 S fun b S1 => (b = true → te Γ1 S1 fun y S2 => sz (acc.length + 1) ∧ compL dg t te r Γ (acc ++ [y]) S2 Q) ∧
    (b = false → compL dg t te r Γ acc S1 Q)
def dComp (wi : DA) (dg : DG) (t : DT) (te : DE) (vs : List Nat) : DA := fun Γ S Q => wi Γ S fun xs S1 => compL dg t te xs (wipeG Γ vs) [] S1 Q
def dYes : DT := fun _ S Q => Q true S
abbrev PTsD (X : Cx) (B : Bs) (ifs : List Expr) (t : DT) : Prop := PTs X ifs (liftT X.K B t)
theorem pts_dnil : PTsD X B [] dYes := ⟨fun pins s σ H Q I h => by
  obtain ⟨Z, S, Γ, fp, ofp, P, r, h, q⟩ := h
  exact pts_nil.run pins s σ H Q I (q _ _ h Z H fp r (.refl _ _ _))⟩
theorem pts_done (h : PTD X B c tt) : PTsD X B [c] tt := pts_one h
/-- behind a stretch that went on with other slots, ours are as they were -/
theorem R.back {K : PySem.W.Frag} {Z Z1 : Fz} {S S1 : Sto} {Γ Γ1 : Gm} {σ σ1 : L2.St} {H H1 : Hp} {fp ofp fp1 ofp1 : List Addr} (r : R K B Z S Γ σ H fp ofp) (r1 : R K B Z1 S1 Γ1 σ1 H1 fp1 ofp1) (u : Up Z H fp Z1 H1 fp1) : R K B Z1 S1 Γ σ H1 fp1 ofp := by
  have nd := List.nodup_append.mp r.nd
  have nd1 := List.nodup_append.mp r1.nd
  have nfp : ∀ a ∈ ofp, a ∉ fp := fun a m z => nd.2.2 a z a m rfl
  have th : ∀ a ∈ ofp, ∃ o, H a = some o := fun a m => r.ownThere a (List.mem_append_right _ m)
  refine ⟨r1.kk, r1.fr, r1.st, r.gm.mono u.le fun a m o e => u.keep a o e (nfp a m), List.nodup_append.mpr ⟨nd1.1, nd.2.1, fun a ma b mb e => ?_⟩, fun a m => ?_, ⟨r1.ext.le, r1.ext.fl, r1.ext.keep, r1.ext.there, fun a m => ?_, r1.ext.frz⟩, r.of⟩
  · subst e
    rcases u.new a ma with z | z
    · exact nfp a mb z
    · obtain ⟨o, e⟩ := th a mb
      rw [z] at e
      cases e
  · rcases List.mem_append.mp m with m | m
    · exact r1.nf a (List.mem_append_left _ m)
    · cases q : Z1.F a with
      | none => rfl
      | some o =>
        rcases u.frz a (r.nf a (List.mem_append_right _ m)) (by rw [q]; simp) with z | z
        · obtain ⟨o, e⟩ := th a m
          rw [z] at e
          cases e
        · exact absurd z (nfp a m)
  · rcases List.mem_append.mp m with m | m
    · exact r1.ext.new a (List.mem_append_left _ m)
    · exact .inr (r.of a m)
/-- a target of a comprehension keeps the others -/
def GComp (K : PySem.W.Frag) (B : Bs) (vs : List Nat) (g : TG) (dg : DG) : Prop :=
  ∀ {Z : Fz} {S : Sto} {Γ : Gm} {σ : L2.St} {H : Hp} {fp ofp : List Addr} {v : V} {x : D} {P : Gm → Prop} {Q : L2.St → Hp → Prop}, R K B Z S (wipeG Γ vs) (L2.wipe σ vs) H fp ofp → DV K Z v x → dg x (wipeG Γ vs) P →
    (∀ Γ', P Γ' → ∀ σ' ofp', R K B Z S Γ' σ' H fp ofp' → L2.wipe σ' vs = L2.wipe σ vs → wipeG Γ' vs = wipeG Γ vs → (∀ a ∈ ofp', a ∈ ofp) → Q σ' H) → g v (L2.wipe σ vs) H Q
theorem pf_comp {K : PySem.W.Frag} {vs : List Nat} {wi : DA} {g : TG} {dg : DG} (gc : GComp K B vs g dg)
    (σ : L2.St) (H : Hp) (Q : VK) (h : liftO K B (dComp wi dg tt te vs) σ H Q) : tLc (liftI K B wi) g (liftT K B tt) (liftD K B te) vs σ H Q := by
  obtain ⟨Z, S, Γ, fp, ofp, P, r, h, q⟩ := h
  refine ⟨Z, S, Γ, fp, ofp, _, r, h, fun xs S1 p1 Z1 H1 fp1 r1 l1 J hJ => fun Dl hD => ?_⟩
  obtain ⟨nd1, nd2, nd3, nd4⟩ := r1.fresh hD
  obtain ⟨o0, r0, s0⟩ := r1.wipe vs
  have W0 : Up Z1 H1 fp1 Z1 (upd H1 Dl (.lst [])) fp1 := Up.grow hD
  refine ⟨fun i m H' => m = xs.length - i ∧ i ≤ xs.length ∧ ∃ Z' S' fp' ofp' acc accV, R K B Z' S' (wipeG Γ vs) (L2.wipe σ vs) H' fp' ofp' ∧ Up Z1 H1 fp1 Z' H' fp' ∧
      H' Dl = some (.lst accV) ∧ DVs K Z' accV acc ∧ Dl ∉ fp' ∧ Dl ∉ ofp' ∧ Z'.F Dl = none ∧ compL dg tt te (xs.drop i) (wipeG Γ vs) acc S' P,
    ⟨_, rfl, Nat.zero_le _, Z1, S1, fp1, o0, [], [], r0.grow hD, W0, upd_same, .nil, nd1, fun m => nd2 (s0 _ m), nd3, p1⟩, ?_⟩
  rintro i m H' ⟨rfl, hi, Z', S', fp', ofp', acc, accV, r', u', eD, dD, n1, n2, n3, c'⟩
  obtain ⟨yes, no⟩ := hJ i Z' S' _ _ H' fp' ofp' r' u'.le
  by_cases hlt : i < xs.length
  · have e : xs.drop i = xs[i] :: xs.drop (i + 1) := List.drop_eq_getElem_cons hlt
    rw [e] at c'
    obtain ⟨go, yld⟩ := yes xs[i] (List.getElem?_eq_getElem hlt)
    refine .inr ⟨go, fun H2 => ∃ Z' S' fp' ofp' acc accV, R K B Z' S' (wipeG Γ vs) (L2.wipe σ vs) H2 fp' ofp' ∧ Up Z1 H1 fp1 Z' H2 fp' ∧
      H2 Dl = some (.lst accV) ∧ DVs K Z' accV acc ∧ Dl ∉ fp' ∧ Dl ∉ ofp' ∧ Z'.F Dl = none ∧ compL dg tt te (xs.drop (i + 1)) (wipeG Γ vs) acc S' P, fun H2 n => ⟨xs.length - (i + 1), by omega, rfl, hlt, n⟩, fun v H2 y => ?_⟩
    obtain ⟨Z2, r2, u2, dv⟩ := yld v H2 y
    refine gc r2 dv c' fun Γ3 p3 σ3 ofp3 r3 w3 w3' sub3 => ⟨w3, ?_⟩
    refine ⟨Z2, S', Γ3, fp', ofp3, _, r3, p3, fun k S4 h4 Z4 H4 fp4 r4 u4 => ?_⟩
    have frzD : ∀ {Zb : Fz} {Hb : Hp} {fpb : List Addr}, Up Z' H' fp' Zb Hb fpb → Zb.F Dl = none := fun {Zb Hb fpb} u => by
      cases qq : Zb.F Dl with
      | none => rfl
      | some o =>
        rcases u.frz Dl n3 (by rw [qq]; simp) with z | z
        · rw [z] at eD
          cases eD
        · exact absurd z n1
    have nfp : ∀ {Zb : Fz} {Hb : Hp} {fpb : List Addr}, Up Z' H' fp' Zb Hb fpb → Dl ∉ fpb := fun {Zb Hb fpb} u m => by
      rcases u.new Dl m with z | z
      · exact n1 z
      · rw [z] at eD
        cases eD
    cases k with
    | true =>
      refine iteT ?_
      refine ⟨Z4, S4, Γ3, fp4, ofp3, _, r4, h4.1 rfl, fun y5 S5 h5 Z5 H5 fp5 v5 r5 u5 dv5 => ?_⟩
      have uu := (u2.trans u4).trans u5
      have e5 := uu.keep Dl _ eD n1
      obtain ⟨hz, h5⟩ := h5
      refine ⟨accV, e5, by rw [dD.length]; exact Nat.lt_of_lt_of_le (Nat.lt_succ_self _) hz.ok, ?_⟩
      obtain ⟨o6, r6, s6⟩ := r5.wipe vs
      rw [w3, w3'] at r6
      have no6 : Dl ∉ o6 := fun m => n2 (sub3 _ (s6 _ m))
      refine ⟨Z5, S5, fp5, o6, acc ++ [y5], accV ++ [v5], r6.other (nfp uu) no6 (frzD uu) (r1.ext.there Dl hD), ?_, upd_same, (dD.mono uu.le).append (.cons dv5 .nil), nfp uu, no6, frzD uu, h5⟩
      have ut := u'.trans uu
      refine ⟨ut.le, fun a o ea na => ?_, ut.new, fun a ea => ?_, ut.frz⟩
      · rw [upd_ne (ne_of_none ea hD)]
        exact ut.keep a o ea na
      · by_cases z : a = Dl
        · rw [z]
          exact hD
        · rw [upd_ne z] at ea
          exact ut.there a ea
    | false =>
      refine iteF ?_
      have uu := u2.trans u4
      have e5 := uu.keep Dl _ eD n1
      obtain ⟨o6, r6, s6⟩ := r4.wipe vs
      rw [w3, w3'] at r6
      exact ⟨Z4, S4, fp4, o6, acc, accV, r6, u'.trans uu, e5, dD.mono uu.le, nfp uu, fun m => n2 (sub3 _ (s6 _ m)), frzD uu, h4.2 rfl⟩
  · have e : xs.drop i = [] := List.drop_eq_nil_of_le (by omega)
    rw [e] at c'
    refine .inl ⟨no (List.getElem?_eq_none (by omega)), ?_⟩
    exact q acc S' c' Z' H' fp' Dl accV (r1.back r' u') (l1.trans u') eD dD n3 n1 nd2 (l1.there _ hD)
theorem pf_lc {elt tg iter : Expr} {ifs : List Expr} {scope : Scope} {own : List (Str × Nat)} {wi : DA} {g : TG} {dg : DG} (hc : X.calm = true) (hN : X.N.Nodup) (hi : PID X B tg iter wi) (ok : BlkOk X.N X.env.scope scope own)
    (hg : ∀ (s : Shared) (H : Hp) (C : Addr) (cl : List (Str × Addr)) (fp : List Addr), PG (X.blk s H scope (compEnvC scope cl C X.env) fp) tg g) (gc : GComp X.K B (own.map (·.2)) g dg)
    (ht : ∀ (s : Shared) (H : Hp) (C : Addr) (cl : List (Str × Addr)) (fp : List Addr), PTs (X.blk s H scope (compEnvC scope cl C X.env) fp) ifs (liftT X.K B tt))
    (he : ∀ (s : Shared) (H : Hp) (C : Addr) (cl : List (Str × Addr)) (fp : List Addr), PE (X.blk s H scope (compEnvC scope cl C X.env) fp) elt (liftD X.K B te))
    (k : ∀ {wi' : TI} {g' : TG} {tt' : TT} {te' : TE}, X.calm = true → X.N.Nodup → BlkOk X.N X.env.scope scope own → PI X tg iter wi' → (∀ (s : Shared) (H : Hp) (C : Addr) (cl : List (Str × Addr)) (fp : List Addr), PG (X.blk s H scope (compEnvC scope cl C X.env) fp) tg g') →
      (∀ (s : Shared) (H : Hp) (C : Addr) (cl : List (Str × Addr)) (fp : List Addr), PTs (X.blk s H scope (compEnvC scope cl C X.env) fp) ifs tt') → (∀ (s : Shared) (H : Hp) (C : Addr) (cl : List (Str × Addr)) (fp : List Addr), PE (X.blk s H scope (compEnvC scope cl C X.env) fp) elt te') →
      PE X (.ListComp elt [⟨tg, iter, ifs, 0⟩] scope pos) (tLc wi' g' tt' te' (own.map (·.2))) := by exact fun h1 h2 h3 a b c d => pe_lc h1 h2 a h3 b c d) :
    PF X B (.ListComp elt [⟨tg, iter, ifs, 0⟩] scope pos) (dComp wi dg tt te (own.map (·.2))) := PE.weak (k hc hN ok hi hg ht he) (pf_comp gc)
/-- x = [..] -/
theorem ps_dsetLc {st : Stmt} {i : Nat} {t : TE} (h : PS X st (tAsg t (gName i))) (k : ∀ σ H Q, liftO X.K B to σ H Q → t σ H Q) : PSD X B st (dSetF i to) := PS.weak h fun Dn σ H h => by
  obtain ⟨Z, S, Γ, fp, ofp, DD, r, h, ok⟩ := h
  refine k σ H (fun x H1 => Dn.nx (σ.set i (some x)) H1) ⟨Z, S, Γ, fp, ofp, _, r, h, fun ds S' p Z' H' fp' a xs r' l e1 d1 n1 n2 n3 n4 => ?_⟩
  obtain ⟨ofp', r2⟩ := r'.setO i e1 d1 n1 n2 n3 (r.ext.there _ n4)
  exact ok.nx _ _ _ _ _ _ _ r2 p
/-- .. frozen at once -/
def dSetZ (i : Nat) (to : DA) : DS := dSet i (dFz to)
theorem fz_o {K : PySem.W.Frag} {σ : L2.St} {H : Hp} {Q : VK} (h : liftD K B (dFz to) σ H Q) : liftO K B to σ H Q := by
  obtain ⟨Z, S, Γ, fp, ofp, P, r0, h, q⟩ := h
  refine ⟨Z, S, Γ, fp, ofp, _, r0, h, fun ds S1 h1 Z1 H1 fp1 p xs r1 l1 e1 b1 hf n1 n2 n3 => ?_⟩
  exact q _ S1 h1 _ H1 fp1 _ (r1.freeze e1 hf n1 n2 (r0.ext.there _ n3)) (l1.addF n3 hf) (.lst (SqL.of (show upd Z1.F p (.lst xs) p = _ from upd_same)) (b1.mono (le_frz hf)))
theorem ps_dsetLcZ {st : Stmt} {i : Nat} {t : TE} (h : PS X st (tAsg t (gName i))) (k : ∀ σ H Q, liftO X.K B to σ H Q → t σ H Q) : PSD X B st (dSetZ i to) := PS.weak h fun Dn σ H h => by
  obtain ⟨Z, S, Γ, fp, ofp, DD, r, h, ok⟩ := h
  have h : dFz to Γ S (fun x S1 => DD.nx (Γ.set i (some (.d x))) S1) := h
  refine k σ H (fun x H1 => Dn.nx (σ.set i (some x)) H1) (fz_o ⟨Z, S, Γ, fp, ofp, _, r, h, fun d S' p Z' H' fp' v r' l dv => ?_⟩)
  obtain ⟨ofp', r2, _⟩ := r'.setD i dv
  exact ok.nx _ _ _ _ _ _ _ r2 p
/-- a target that is one name -/
theorem wipe_setN : ∀ (σ : L2.St) (vs : List Nat) (i : Nat) (x : Option V), i ∈ vs → L2.wipe (σ.set i x) vs = L2.wipe σ vs := by
  intro σ vs
  induction vs with
  | nil => intro i x h; cases h
  | cons v vs ih =>
    intro i x h
    show (L2.wipe (σ.set i x) vs).set v none = (L2.wipe σ vs).set v none
    by_cases hm : i ∈ vs
    · rw [ih i x hm]
    · have e : i = v := (List.mem_cons.mp h).resolve_right hm
      subst e
      have ss : ∀ ws : List Nat, i ∉ ws → ∀ σ : L2.St, L2.wipe (σ.set i x) ws = (L2.wipe σ ws).set i x := by
        intro ws
        induction ws with
        | nil => intro _ σ; rfl
        | cons w ws ih2 =>
          intro hn σ
          show (L2.wipe (σ.set i x) ws).set w none = ((L2.wipe σ ws).set w none).set i x
          rw [ih2 (fun z => hn (List.mem_cons_of_mem _ z)) σ]
          exact List.set_comm _ _ (fun z => hn (by rw [z]; exact List.mem_cons_self))
      rw [ss vs hm σ, List.set_set]
theorem wipeG_setN : ∀ (σ : Gm) (vs : List Nat) (i : Nat) (x : Option W), i ∈ vs → wipeG (σ.set i x) vs = wipeG σ vs := by
  intro σ vs
  induction vs with
  | nil => intro i x h; cases h
  | cons v vs ih =>
    intro i x h
    show (wipeG (σ.set i x) vs).set v none = (wipeG σ vs).set v none
    by_cases hm : i ∈ vs
    · rw [ih i x hm]
    · have e : i = v := (List.mem_cons.mp h).resolve_right hm
      subst e
      have ss : ∀ ws : List Nat, i ∉ ws → ∀ σ : Gm, wipeG (σ.set i x) ws = (wipeG σ ws).set i x := by
        intro ws
        induction ws with
        | nil => intro _ σ; rfl
        | cons w ws ih2 =>
          intro hn σ
          show (wipeG (σ.set i x) ws).set w none = ((wipeG σ ws).set w none).set i x
          rw [ih2 (fun z => hn (List.mem_cons_of_mem _ z)) σ]
          exact List.set_comm _ _ (fun z => hn (by rw [z]; exact List.mem_cons_self))
      rw [ss vs hm σ, List.set_set]
theorem set_self_id {α : Type} : ∀ (l : List α) (i : Nat) (x : α), l[i]? = some x → l.set i x = l
  | [], _, _, _ => rfl
  | y :: l, 0, x, h => by
    have e : y = x := Option.some.inj h
    rw [e]
    rfl
  | y :: l, i + 1, x, h => by
    show y :: l.set i x = y :: l
    rw [set_self_id l i x h]
theorem wipe_len (σ : L2.St) : ∀ vs, (L2.wipe σ vs).length = σ.length
  | [] => rfl
  | v :: vs => by
    show ((L2.wipe σ vs).set v none).length = _
    rw [List.length_set, wipe_len σ vs]
theorem wipeG_len (σ : Gm) : ∀ vs, (wipeG σ vs).length = σ.length
  | [] => rfl
  | v :: vs => by
    show ((wipeG σ vs).set v none).length = _
    rw [List.length_set, wipeG_len σ vs]
theorem wipe_idem (σ : L2.St) (vs : List Nat) : L2.wipe (L2.wipe σ vs) vs = L2.wipe σ vs := by
  have h : ∀ ws : List Nat, (∀ w ∈ ws, w ∈ vs) → L2.wipe (L2.wipe σ ws) vs = L2.wipe σ vs := by
    intro ws
    induction ws with
    | nil => intro _; rfl
    | cons w ws ih =>
      intro hs
      show L2.wipe ((L2.wipe σ ws).set w none) vs = _
      rw [wipe_setN _ vs w none (hs w List.mem_cons_self)]
      exact ih fun z m => hs z (List.mem_cons_of_mem _ m)
  exact h vs fun _ m => m
theorem wipeG_idem (σ : Gm) (vs : List Nat) : wipeG (wipeG σ vs) vs = wipeG σ vs := by
  have h : ∀ ws : List Nat, (∀ w ∈ ws, w ∈ vs) → wipeG (wipeG σ ws) vs = wipeG σ vs := by
    intro ws
    induction ws with
    | nil => intro _; rfl
    | cons w ws ih =>
      intro hs
      show wipeG ((wipeG σ ws).set w none) vs = _
      rw [wipeG_setN _ vs w none (hs w List.mem_cons_self)]
      exact ih fun z m => hs z (List.mem_cons_of_mem _ m)
  exact h vs fun _ m => m
/-- the slots hold, the own ones forgotten -/
structure Keeps (vs : List Nat) (σ σ' : L2.St) (Γ Γ' : Gm) (ofp ofp' : List Addr) : Prop where
  s : L2.wipe σ' vs = L2.wipe σ vs
  g : wipeG Γ' vs = wipeG Γ vs
  o : ∀ a ∈ ofp', a ∈ ofp
def GC (K : PySem.W.Frag) (B : Bs) (vs : List Nat) (g : TG) (dg : DG) : Prop :=
  ∀ {Z : Fz} {S : Sto} {Γ : Gm} {σ : L2.St} {H : Hp} {fp ofp : List Addr} {v : V} {x : D} {P : Gm → Prop} {Q : L2.St → Hp → Prop}, R K B Z S Γ σ H fp ofp → DV K Z v x → dg x Γ P →
    (∀ Γ', P Γ' → ∀ σ' ofp', R K B Z S Γ' σ' H fp ofp' → Keeps vs σ σ' Γ Γ' ofp ofp' → Q σ' H) → g v σ H Q
def GCs (K : PySem.W.Frag) (B : Bs) (vs : List Nat) (g : TGs) (dg : DGs) : Prop :=
  ∀ {Z : Fz} {S : Sto} {Γ : Gm} {σ : L2.St} {H : Hp} {fp ofp : List Addr} {us : List V} {xs : List D} {P : Gm → Prop} {Q : L2.St → Hp → Prop}, R K B Z S Γ σ H fp ofp → DVs K Z us xs → dg xs Γ P →
    (∀ Γ', P Γ' → ∀ σ' ofp', R K B Z S Γ' σ' H fp ofp' → Keeps vs σ σ' Γ Γ' ofp ofp' → Q σ' H) → g us σ H Q
theorem gc_of {K : PySem.W.Frag} {vs : List Nat} {g : TG} {dg : DG} (h : GC K B vs g dg) : GComp K B vs g dg := fun {Z S Γ σ H fp ofp v x P Q} r dv hd q =>
  h r dv hd fun Γ' p σ' ofp' r' k => q Γ' p σ' ofp' r' (k.s.trans (wipe_idem _ _)) (k.g.trans (wipeG_idem _ _)) k.o
theorem gc_name {K : PySem.W.Frag} {vs : List Nat} (i : Nat) (hi : i ∈ vs) : GC K B vs (gName i) (dgName i) := fun {Z S Γ σ H fp ofp v x P Q} r dv hd q => by
  obtain ⟨ofp', r2, s2⟩ := r.setD i dv
  exact q _ hd _ _ r2 ⟨wipe_setN _ _ _ _ hi, wipeG_setN _ _ _ _ hi, s2⟩
theorem gcs_nil {K : PySem.W.Frag} {vs : List Nat} : GCs K B vs gNil dgNil := fun {Z S Γ σ H fp ofp us xs P Q} r dv hd q => by
  cases dv with
  | nil => exact ⟨rfl, q _ hd _ _ r ⟨rfl, rfl, fun _ m => m⟩⟩
  | cons _ _ => exact False.elim hd
theorem gcs_cons {K : PySem.W.Frag} {vs : List Nat} {g : TG} {dg : DG} {gs : TGs} {dr : DGs} (h1 : GC K B vs g dg) (h2 : GCs K B vs gs dr) : GCs K B vs (gCons g gs) (dgCons dg dr) := fun {Z S Γ σ H fp ofp us xs P Q} r dv hd q => by
  cases dv with
  | nil => exact False.elim hd
  | cons d1 d2 => exact ⟨_, _, rfl, h1 r d1 hd fun Γ' p' σ' ofp' r' k' => h2 r' d2 p' fun Γ2 p2 σ2 ofp2 r2 k2 => q _ p2 _ _ r2 ⟨k2.s.trans k'.s, k2.g.trans k'.g, fun a m => k'.o a (k2.o a m)⟩⟩
theorem gc_tup {K : PySem.W.Frag} {vs : List Nat} {n : Nat} {gs : TGs} {dr : DGs} (h : GCs K B vs gs dr) : GC K B vs (gTup K n gs) (dgTup n dr) := fun {Z S Γ σ H fp ofp v x P Q} r dv hd q => by
  cases dv with
  | tup h1 h2 =>
    obtain ⟨e, hd⟩ := hd
    exact ⟨_, _, rfl, same_sqT r.fr h1, by rw [h2.length]; exact e, h r h2 hd q⟩
  | _ => exact False.elim hd
end
end DL
namespace DL
open PySem PySem.Spec PyProof.Rows L2
/-! ### a def's promise on data -/
abbrev DSpec := List D → Sto → (W → Sto → Prop) → (Value → Sto → Prop) → Prop
structure St0 (K : PySem.W.Frag) (Z : Fz) (S : Sto) (H : Hp) (fp : List Addr) : Prop where
  kk : Z.k = S.length
  fr : ∀ a o, Z.F a = some o → H a = some o
  st : SR K Z H 0 S fp
  nd : fp.Nodup
  nf : ∀ a ∈ fp, Z.F a = none
def WBack (K : PySem.W.Frag) (Z : Fz) (H0 H : Hp) (fp : List Addr) : V → W → Prop
  | v, .d x => DV K Z v x
  | v, .own ds => ∃ a xs, v = .ref a ∧ H a = some (.lst xs) ∧ DVs K Z xs ds ∧ Z.F a = none ∧ a ∉ fp ∧ H0 a = none
def spS (K : PySem.W.Frag) (g : DSpec) : Sp := fun vs H Q E => ∃ Z S fp ds P EP, St0 K Z S H fp ∧ DVs K Z vs ds ∧ g ds S P EP ∧
  (∀ w S', P w S' → ∀ Z' H' fp' v, St0 K Z' S' H' fp' → Up Z H fp Z' H' fp' → WBack K Z' H H' fp' v w → Q v H') ∧
  (∀ c S', EP c S' → ∀ Z' H' fp', St0 K Z' S' H' fp' → Up Z H fp Z' H' fp' → E c none H')
section
variable {K : PySem.W.Frag} {B : Bs} {Z : Fz} {S : Sto} {Γ : Gm} {σ : L2.St} {H : Hp} {fp ofp : List Addr}
theorem R.st0 (r : R K B Z S Γ σ H fp ofp) : St0 K Z S H fp := ⟨r.kk, r.fr, r.st, (List.nodup_append.mp r.nd).1, fun a m => r.nf a (List.mem_append_left _ m)⟩
theorem R.up (r : R K B Z S Γ σ H fp ofp) : Up B.Z B.H B.fp Z H fp := ⟨r.ext.le, r.ext.keep, fun a m => r.ext.new a (List.mem_append_left _ m), r.ext.there, r.ext.frz⟩
def startG (n : Nat) (ds : List D) : Gm := ds.map (fun d => some (.d d)) ++ List.replicate (n - ds.length) none
theorem gr_none : ∀ n, GR K Z H (List.replicate n none) (List.replicate n none) []
  | 0 => .nil
  | n + 1 => .gn (gr_none n)
theorem gr_start : ∀ {vs : List V} {ds : List D} (n : Nat), DVs K Z vs ds → GR K Z H (vs.map some ++ List.replicate n none) (ds.map (fun d => some (.d d)) ++ List.replicate n none) []
  | _, _, n, .nil => gr_none n
  | _, _, n, .cons h q => by
    have g := GR.gs (WR.d (H := H) h) (gr_start n q)
    exact g
theorem R.entry {vs : List V} {ds : List D} {N : List Str} (s0 : St0 K Z S H fp) (d : DVs K Z vs ds) : R K ⟨Z, H, fp, Z⟩ Z S (startG N.length ds) (L2.start N vs) H fp [] := by
  refine ⟨s0.kk, s0.fr, s0.st, ?_, by rw [List.append_nil]; exact s0.nd, fun a m => s0.nf a (by rw [List.append_nil] at m; exact m), ⟨.refl _, .refl _, fun _ _ h _ => h, fun _ h => h, fun a m => .inl (by rw [List.append_nil] at m; exact m), fun a h n => absurd h n⟩, fun a m => by cases m⟩
  unfold startG L2.start
  rw [d.length]
  exact gr_start _ d
/-- behind a call -/
theorem R.called (r : R K B Z S Γ σ H fp ofp) {Z1 : Fz} {S1 : Sto} {H1 : Hp} {fp1 : List Addr} (s1 : St0 K Z1 S1 H1 fp1) (u : Up Z H fp Z1 H1 fp1) : R K B Z1 S1 Γ σ H1 fp1 ofp := by
  have nd := List.nodup_append.mp r.nd
  have nfp : ∀ a ∈ ofp, a ∉ fp := fun a m z => nd.2.2 a z a m rfl
  have th : ∀ a ∈ ofp, ∃ o, H a = some o := fun a m => r.ownThere a (List.mem_append_right _ m)
  have bt := r.up
  have bu := bt.trans u
  refine ⟨s1.kk, s1.fr, s1.st, r.gm.mono u.le fun a m o e => u.keep a o e (nfp a m), List.nodup_append.mpr ⟨s1.nd, nd.2.1, fun a ma b mb e => ?_⟩, fun a m => ?_, ⟨bu.le, r.ext.fl.trans u.le, bu.keep, bu.there, fun a m => ?_, bu.frz⟩, r.of⟩
  · subst e
    rcases u.new a ma with z | z
    · exact nfp a mb z
    · obtain ⟨o, e⟩ := th a mb
      rw [z] at e
      cases e
  · rcases List.mem_append.mp m with m | m
    · exact s1.nf a m
    · cases q : Z1.F a with
      | none => rfl
      | some o =>
        rcases u.frz a (r.nf a (List.mem_append_right _ m)) (by rw [q]; simp) with z | z
        · obtain ⟨o, e⟩ := th a m
          rw [z] at e
          cases e
        · exact absurd z (nfp a m)
  · rcases List.mem_append.mp m with m | m
    · exact bu.new a m
    · exact .inr (r.of a m)
end

/-! ### what is raised -/
abbrev EW := Value → Gm → Sto → Prop
structure DX (X : Cx) (B : Bs) (w : WX) (ew : EW) : Prop where
  tk : Takes X w
  ok : ∀ Z S Γ σ H fp ofp c, R X.K B Z S Γ σ H fp ofp → ew c Γ S → w c none σ H
abbrev ew0 : EW := fun _ _ _ => False
abbrev w0 : WX := fun _ _ _ _ => False
theorem dx0 {X : Cx} {B : Bs} : DX X B w0 ew0 := ⟨takes0, fun _ _ _ _ _ _ _ _ _ h => h.elim⟩
theorem DX.up {X : Cx} {B B' : Bs} {w : WX} {ew : EW} (dx : DX X B w ew) (u : B.up B') : DX X B' w ew := ⟨dx.tk, fun Z S Γ σ H fp ofp c r h => dx.ok Z S Γ σ H fp ofp c (r.lower u) h⟩

section
variable {X : Cx} {B : Bs} {a b c e : Expr} {te : DE} {to : DA} {tt : DT} {pos : Pos} {ts tu : DS} {st : Stmt} {rest : List Stmt} {es : List Expr} {tr : DA} {w : WX} {ew : EW}
def backD (Q : D → Sto → Prop) : W → Sto → Prop
  | .d x, S => Q x S
  | .own ds, S => Q (.lst ds) S
def backF (Q : List D → Sto → Prop) : W → Sto → Prop
  | .own ds, S => Q ds S
  | .d _, _ => False
def dCallS (g : DSpec) (ew : EW) (tr : DA) : DE := fun Γ S Q => tr Γ S fun ds S1 => g ds S1 (backD Q) fun c S2 => ew c Γ S2
def dCallSF (g : DSpec) (ew : EW) (tr : DA) : DA := fun Γ S Q => tr Γ S fun ds S1 => g ds S1 (backF Q) fun c S2 => ew c Γ S2
theorem call_run {g : DSpec} {E : L2.St → XK} (dx : DX X B w ew) {σ : L2.St} {H : Hp} {Q : VK} {t : TA} (ht : ∀ Q', liftA X.K B tr σ H Q' → t σ H Q') (h : liftD X.K B (dCallS g ew tr) σ H Q) : tCallS (spS X.K g) (WE w) t σ H Q := by
  obtain ⟨Z, S, Γ, fp, ofp, P, r, h, q⟩ := h
  refine ht _ ⟨Z, S, Γ, fp, ofp, _, r, h, fun ds S1 h1 Z1 H1 fp1 vs r1 u1 d1 => ?_⟩
  refine ⟨Z1, S1, fp1, ds, _, _, r1.st0, d1, h1, fun w2 S2 p2 Z2 H2 fp2 v2 s2 u2 b2 => ?_, fun c S2 p2 Z2 H2 fp2 s2 u2 => ?_⟩
  · have r2 := r1.called s2 u2
    cases w2 with
    | d x => exact q x S2 p2 Z2 H2 fp2 v2 r2 (u1.trans u2) b2
    | own es =>
      obtain ⟨a, xs, rfl, e2, d2, n1, n2, n3⟩ := b2
      have ut := u1.trans u2
      have na : a ∉ ofp := fun m => by
        obtain ⟨o, e⟩ := r1.ownThere a (List.mem_append_right _ m)
        rw [n3] at e
        cases e
      have n4 := u1.there a n3
      exact q _ S2 p2 _ H2 fp2 _ (r2.freeze e2 n1 n2 na (r.ext.there _ n4)) (ut.addF n4 n1) (.lst (SqL.of (show upd Z2.F a (.lst xs) a = _ from upd_same)) (d2.mono (le_frz n1)))
  · exact dx.ok _ _ _ _ _ _ _ _ (r1.called s2 u2) p2
theorem callF_run {g : DSpec} (dx : DX X B w ew) {σ : L2.St} {H : Hp} {Q : VK} {t : TA} (ht : ∀ Q', liftA X.K B tr σ H Q' → t σ H Q') (h : liftO X.K B (dCallSF g ew tr) σ H Q) : tCallS (spS X.K g) (WE w) t σ H Q := by
  obtain ⟨Z, S, Γ, fp, ofp, P, r, h, q⟩ := h
  refine ht _ ⟨Z, S, Γ, fp, ofp, _, r, h, fun ds S1 h1 Z1 H1 fp1 vs r1 u1 d1 => ?_⟩
  refine ⟨Z1, S1, fp1, ds, _, _, r1.st0, d1, h1, fun w2 S2 p2 Z2 H2 fp2 v2 s2 u2 b2 => ?_, fun c S2 p2 Z2 H2 fp2 s2 u2 => ?_⟩
  · have r2 := r1.called s2 u2
    cases w2 with
    | d x => exact False.elim p2
    | own es =>
      obtain ⟨a, xs, rfl, e2, d2, n1, n2, n3⟩ := b2
      have na : a ∉ ofp := fun m => by
        obtain ⟨o, e⟩ := r1.ownThere a (List.mem_append_right _ m)
        rw [n3] at e
        cases e
      exact q _ S2 p2 _ H2 fp2 _ _ r2 (u1.trans u2) e2 d2 n1 n2 na (u1.there a n3)
  · exact dx.ok _ _ _ _ _ _ _ _ (r1.called s2 u2) p2
variable {k : Nat} {f : Addr} {fd : FuncData} {ps : List Str} {g : DSpec} {x : Str} {p : Pos}
theorem pd_call (dx : DX X B w ew) (F : FnOk X.prog X.w X.K X.mg X.base (L2.CX X.prog X.w) k f fd ps (spS X.K g)) (hr : Room k X.A) (hm : X.mg x = some (.ref f)) (hk : PySem.W.keepIn X.K (.ref f) = true) (hb : Binds X.K fd ps []) (ha : PAD X B (e :: es) tr)
    (hg : Gl X x := by rfl) (hdb : (x == ("__debug__" : Str)) = false := by decide) (he : starEach (e :: es) X.env = (false, eval e X.env) :: starEach es X.env := by rfl) (hpl : (backTo pos (starEach es X.env)).any (·.1) = false := by rfl) :
    PD X B (.Call (.Name x p) (e :: es) [] pos) (dCallS g ew tr) := PE.weak (pe_callS F hr hg hm hk hb (fun σ => passAt dx.tk σ) ha hdb he hpl) fun σ H Q h => call_run (E := WE w) dx (fun _ h => h) h
theorem pf_call (dx : DX X B w ew) (F : FnOk X.prog X.w X.K X.mg X.base (L2.CX X.prog X.w) k f fd ps (spS X.K g)) (hr : Room k X.A) (hm : X.mg x = some (.ref f)) (hk : PySem.W.keepIn X.K (.ref f) = true) (hb : Binds X.K fd ps []) (ha : PAD X B (e :: es) tr)
    (hg : Gl X x := by rfl) (hdb : (x == ("__debug__" : Str)) = false := by decide) (he : starEach (e :: es) X.env = (false, eval e X.env) :: starEach es X.env := by rfl) (hpl : (backTo pos (starEach es X.env)).any (·.1) = false := by rfl) :
    PF X B (.Call (.Name x p) (e :: es) [] pos) (dCallSF g ew tr) := PE.weak (pe_callS F hr hg hm hk hb (fun σ => passAt dx.tk σ) ha hdb he hpl) fun σ H Q h => callF_run dx (fun _ h => h) h
/-- f(): no argument -/
theorem pd_call0 (F : FnOk X.prog X.w X.K X.mg X.base (L2.CX X.prog X.w) k f fd ps (spS X.K g)) (hr : Room k X.A) (hm : X.mg x = some (.ref f)) (hk : PySem.W.keepIn X.K (.ref f) = true) (hb : Binds X.K fd ps [])
    (hg : Gl X x := by rfl) (hdb : (x == ("__debug__" : Str)) = false := by decide) : PD X B (.Call (.Name x p) [] [] pos) (dCallS g ew0 dNil) :=
  PE.weak (pe_call0 F hr hg hm hk hb .nil passL hdb) fun σ H Q h => by
    have h2 := call_run (E := WE w0) (dx0 (X := X) (B := B)) (t := tNil) (tr := dNil) (fun Q' h => by
      obtain ⟨Z, S, Γ, fp, ofp, P, r, h, q⟩ := h
      exact q _ _ h Z H fp [] r (.refl _ _ _) .nil) h
    exact h2

/-! ### a def -/
theorem fun_ok {P : Program} {wd : World} {K : PySem.W.Frag} {mg : Str → Option Value} {base : Heap} {qual : Str} {N : List Str} {j : Nat}
    (F : Fun K x qual st f fd) (Sc : FnScope N ps (defScope st)) (len : ∀ ds S P EP, g ds S P EP → ds.length = ps.length)
    (body : ∀ (cdv : Value) (A : Around) (outer : List Env) (s : Shared) (H : Hp) (E : XK) (B : Bs) (P0 : W → Sto → Prop) (EP : Value → Sto → Prop) (ds : List D) (S : Sto), Room j (A.deeper (envOfC qual (defScope st) s.heap.objs.size f cdv)) →
      DX (cxOf (L2.CX P wd) P wd K mg base N qual (defScope st) f cdv A outer s H E) B (fun cls d _ H => E cls d H) (fun c _ S => EP c S) → g ds S P0 EP →
      ∃ ts, PSsD (cxOf (L2.CX P wd) P wd K mg base N qual (defScope st) f cdv A outer s H E) B (defBody st) ts ∧ ts { nx := fun _ S' => P0 (.d .non) S', rt := P0 } (startG N.length ds) S) :
    FnOk P wd K mg base (L2.CX P wd) (j + 1) f fd ps (spS K g) := by
  refine F.okX Sc (fun vs H Q E h => ?_) (fun cdv A outer s H vs Q E hr h => ?_)
  · obtain ⟨Z, S, fp, ds, P0, EP, s0, d, h, _⟩ := h
    rw [d.length]
    exact len _ _ _ _ h
  · obtain ⟨Z, S, fp, ds, P0, EP, s0, d, h, q, qe⟩ := h
    obtain ⟨ts, hts, hh⟩ := body cdv A outer s H E ⟨Z, H, fp, Z⟩ P0 EP ds S hr ⟨takes_of rfl rfl rfl rfl, fun Z1 S1 Γ1 σ1 H1 fp1 ofp1 c r1 p1 => qe c S1 p1 Z1 H1 fp1 r1.st0 r1.up⟩ h
    refine ⟨_, hts, Z, S, startG N.length ds, fp, [], _, R.entry s0 d, hh, ⟨fun Z1 S1 Γ1 σ1 H1 fp1 ofp1 r1 p1 => q _ S1 p1 Z1 H1 fp1 _ r1.st0 r1.up .non, fun _ _ _ _ _ _ _ _ h => h.elim, fun _ _ _ _ _ _ _ _ h => h.elim, fun Z1 S1 Γ1 σ1 H1 fp1 ofp1 w1 v1 r1 b1 p1 => ?_⟩⟩
    refine q w1 S1 p1 Z1 H1 fp1 v1 r1.st0 r1.up ?_
    cases w1 with
    | d x => exact b1
    | own es => exact b1
/-- raise C('..') -/
def dRaise (ew : EW) (c : Value) : DS := fun _ Γ S => ew c Γ S
theorem ps_draise {C : Addr} {bmB : List Value} {B0 newId initId : String} {m : Str} {j0 : Nat} {p2 pos' : Pos} (hc : X.calm = true) (dx : DX X B w ew) (Fx : PySem.ExcBaseFacts B0 newId initId bmB) (q : PySem.W.excIn X.K C bmB newId = true) (gC : X.mg x = some (.ref C)) (kC : PySem.W.keepIn X.K (.ref C) = true) (rr : Raises X (.ref C))
    (hg : Gl X x := by rfl) (hdb : (x == ("__debug__" : Str)) = false := by decide) : PSD X B (.Raise (some (.Call (.Name x p) [.Constant (.str m) j0 p2] [] pos)) none pos') (dRaise ew (.ref C)) :=
  PS.weak (ps_raise hc dx.tk (pmk_own Fx q gC kC rr hg hdb)) fun Dn σ H h => by
    obtain ⟨Z, S, Γ, fp, ofp, DD, r, h, ok⟩ := h
    exact dx.ok _ _ _ _ _ _ _ _ r h
end
end DL
namespace DL
open PySem PySem.Spec PyProof.Rows L2
section
variable {K : PySem.W.Frag} {Z : Fz} {σ : L2.St} {Γ : Gm}
theorem BV.non {v : V} (h : BV K Z σ Γ v .non) : v = .non := by
  cases h.dv (fun _ z => nomatch z); rfl
theorem BV.bl {v : V} {b : Bool} (h : BV K Z σ Γ v (.bl b)) : v = .bl b := by
  cases h.dv (fun _ z => nomatch z); rfl
theorem BV.int {v : V} {i : Int} (h : BV K Z σ Γ v (.int i)) : v = .int i := by
  cases h.dv (fun _ z => nomatch z); rfl
theorem BV.str {v : V} {x : Str} (h : BV K Z σ Γ v (.str x)) : v = .str x := by
  cases h.dv (fun _ z => nomatch z); rfl
theorem BQ.non {v : V} (h : BQ K Z S σ Γ v .non) : v = .non := by
  cases h.dv (fun _ z => nomatch z); rfl
theorem BQ.bl {v : V} {b : Bool} (h : BQ K Z S σ Γ v (.bl b)) : v = .bl b := by
  cases h.dv (fun _ z => nomatch z); rfl
theorem BQ.int {v : V} {i : Int} (h : BQ K Z S σ Γ v (.int i)) : v = .int i := by
  cases h.dv (fun _ z => nomatch z); rfl
theorem BQ.str {v : V} {x : Str} (h : BQ K Z S σ Γ v (.str x)) : v = .str x := by
  cases h.dv (fun _ z => nomatch z); rfl
/-! ### data as the library's data -/
mutual
def py : D → PyData
  | .non => .none
  | .bl b => .bool b
  | .int i => .int i
  | .str x => .str x
  | .tup ds => .tuple (pyAll ds)
  | .lst ds => .list (pyAll ds)
  | .edict | .ref _ | .exc _ | .val _ => .none
def pyAll : List D → List PyData
  | [] => []
  | d :: ds => py d :: pyAll ds
end
mutual
def pyOk : D → Bool
  | .non | .bl _ | .int _ | .str _ => true
  | .tup ds | .lst ds => pyOkAll ds
  | .edict | .ref _ | .exc _ | .val _ => false
def pyOkAll : List D → Bool
  | [] => true
  | d :: ds => pyOk d && pyOkAll ds
end
mutual
theorem py_plain : ∀ d : D, (py d).plain = true
  | .non => rfl
  | .bl _ => rfl
  | .int _ => rfl
  | .str _ => rfl
  | .tup ds => by rw [py, PyData.plain]; exact py_plainAll ds
  | .lst ds => by rw [py, PyData.plain]; exact py_plainAll ds
  | .edict => rfl
  | .ref _ => rfl
  | .exc _ => rfl
  | .val _ => rfl
theorem py_plainAll : ∀ ds : List D, PyData.plainAll (pyAll ds) = true
  | [] => rfl
  | d :: ds => by rw [pyAll, PyData.plainAll, py_plain d, py_plainAll ds]; rfl
end
variable {H : Hp}
mutual
theorem dv_dp (fr : ∀ a o, Z.F a = some o → H a = some o) : ∀ {v : V} {d : D}, DV K Z v d → pyOk d = true → Dp K H v (py d)
  | _, _, .non, _ => .non
  | _, _, .bl b, _ => .bl b
  | _, _, .int i, _ => .int i
  | _, _, .str s, _ => .str s
  | _, _, .tup h q, e => by
    rw [pyOk] at e
    rw [py]
    exact .tup (same_sqT fr h) (dvs_dp fr q e)
  | _, _, .lst h q, e => by
    rw [pyOk] at e
    rw [py]
    exact .lst (same_sqL fr h) (dvs_dp fr q e)
  | _, _, .edict _, e => by cases e
  | _, _, .ref _, e => by cases e
  | _, _, .exc _ _, e => by cases e
  | _, _, .val _, e => by cases e
theorem dvs_dp (fr : ∀ a o, Z.F a = some o → H a = some o) : ∀ {vs : List V} {ds : List D}, DVs K Z vs ds → pyOkAll ds = true → DpAll K H vs (pyAll ds)
  | _, _, .nil, _ => .nil
  | _, _, .cons h q, e => by
    rw [pyOkAll, Bool.and_eq_true] at e
    rw [pyAll]
    exact .cons (dv_dp fr h e.1) (dvs_dp fr q e.2)
end
variable {B : Bs} {S : Sto} {fp ofp : List Addr}
theorem BV.dp (r : R K B Z S Γ σ H fp ofp) {v : V} {d : D} (h : BV K Z σ Γ v d) (e : pyOk d = true) : Dp K H v (py d) := by
  rcases h with h | ⟨i, ds, h1, h2, rfl⟩
  · exact dv_dp r.fr h e
  · obtain ⟨a, xs, rfl, hs, dd⟩ := BV.list r (.inr ⟨i, ds, h1, h2, rfl⟩)
    rw [pyOk] at e
    rw [py]
    exact .lst hs (dvs_dp r.fr dd e)
theorem BQ.dp (r : R K B Z S Γ σ H fp ofp) {v : V} {d : D} (h : BQ K Z S σ Γ v d) (e : pyOk d = true) : Dp K H v (py d) := by
  rcases h with h | ⟨m, ds, rfl, rfl, h3⟩
  · exact h.dp r e
  · obtain ⟨a, xs, e1, hs, dd⟩ := BQ.list r (σ := σ) (Γ := Γ) (.inr ⟨m, ds, rfl, rfl, h3⟩)
    rw [e1]
    rw [pyOk] at e
    rw [py]
    exact .lst hs (dvs_dp r.fr dd e)
end
/-- == on data -/
def eqD (x y : D) : Bool := PyData.eqv (py x) (py y)
/-- may be compared -/
def cmpOk (x : D) : Prop := pyOk x = true ∧ (py x).depth ≤ 60
section
variable {X : Cx} {B : Bs}
def rEqP (K : PySem.W.Frag) (g : Bool → Bool) : R2 := fun x y H Q => ∃ d e, Dp K H x d ∧ Dp K H y e ∧ d.plain = true ∧ e.plain = true ∧ min d.depth e.depth ≤ 60 ∧ Q (.bl (g (PyData.eqv d e))) H
theorem op_eqP (hu : X.A.units + 100 < cLine) : OpR X (compareOp .Eq) (rEqP X.K id) := by
  intro pins s σ H x y v u Q I rx ry h
  obtain ⟨d, e, hd, he, sd, se, hm, q⟩ := h
  obtain ⟨as, r1⟩ := Dp.reads I d x v hd rx
  obtain ⟨bs, r2⟩ := Dp.reads I e y u he ry
  exact SeqAt.eq_plain r1 r2 sd se (by omega) ⟨.bl _, H, I, rfl, q⟩
theorem op_neP (hu : X.A.units + 100 < cLine) : OpR X (compareOp .NotEq) (rEqP X.K not) := by
  intro pins s σ H x y v u Q I rx ry h
  obtain ⟨d, e, hd, he, sd, se, hm, q⟩ := h
  obtain ⟨as, r1⟩ := Dp.reads I d x v hd rx
  obtain ⟨bs, r2⟩ := Dp.reads I e y u he ry
  exact SeqAt.ne_plain r1 r2 sd se (by omega) ⟨.bl _, H, I, rfl, q⟩
def fEq : D → D → (D → Prop) → Prop := fun x y P => cmpOk x ∧ cmpOk y ∧ P (.bl (eqD x y))
def fNe : D → D → (D → Prop) → Prop := fun x y P => cmpOk x ∧ cmpOk y ∧ P (.bl (!eqD x y))
theorem o_eq (hu : X.A.units + 100 < cLine) : OpR X (compareOp .Eq) (rEqP X.K id) ∧ OpD X B (rEqP X.K id) fEq := ⟨op_eqP hu, fun {Z S Γ σ H fp ofp x y vx vy Q P} r bx by_ h q =>
  ⟨_, _, bx.dp r h.1.1, by_.dp r h.2.1.1, py_plain _, py_plain _, Nat.le_trans (Nat.min_le_left _ _) h.1.2, q _ h.2.2 Z H _ r (.refl _ _ _) (.bl _)⟩⟩
theorem o_ne (hu : X.A.units + 100 < cLine) : OpR X (compareOp .NotEq) (rEqP X.K not) ∧ OpD X B (rEqP X.K not) fNe := ⟨op_neP hu, fun {Z S Γ σ H fp ofp x y vx vy Q P} r bx by_ h q =>
  ⟨_, _, bx.dp r h.1.1, by_.dp r h.2.1.1, py_plain _, py_plain _, Nat.le_trans (Nat.min_le_left _ _) h.1.2, q _ h.2.2 Z H _ r (.refl _ _ _) (.bl _)⟩⟩

/-! ### arithmetic -/
def iOp (C : Int → Int → Prop) (g : Int → Int → D) : D → D → (D → Prop) → Prop := fun x y P => match x, y with
  | .int i, .int j => C i j ∧ P (g i j)
  | _, _ => False
def i0 (g : Int → Int → D) : D → D → (D → Prop) → Prop := fun x y P => match x, y with
  | .int i, .int j => P (g i j)
  | _, _ => False
theorem od_I {C : Int → Int → Prop} {g : Int → Int → Int} : OpD X B (rI C fun i j => .int (g i j)) (iOp C fun i j => .int (g i j)) := fun {Z S Γ σ H fp ofp x y vx vy Q P} r bx by_ h q => by
  cases x <;> cases y <;> first
    | (cases bx.int; cases by_.int; exact ⟨_, _, rfl, rfl, h.1, q _ h.2 Z H _ r (.refl _ _ _) (.int _)⟩)
    | exact False.elim h
theorem od_I0 {g : Int → Int → Int} : OpD X B (rI0 fun i j => .int (g i j)) (i0 fun i j => .int (g i j)) := fun {Z S Γ σ H fp ofp x y vx vy Q P} r bx by_ h q => by
  cases x <;> cases y <;> first
    | (cases bx.int; cases by_.int; exact ⟨_, _, rfl, rfl, q _ h Z H _ r (.refl _ _ _) (.int _)⟩)
    | exact False.elim h
theorem od_B0 {g : Int → Int → Bool} : OpD X B (rI0 fun i j => .bl (g i j)) (i0 fun i j => .bl (g i j)) := fun {Z S Γ σ H fp ofp x y vx vy Q P} r bx by_ h q => by
  cases x <;> cases y <;> first
    | (cases bx.int; cases by_.int; exact ⟨_, _, rfl, rfl, q _ h Z H _ r (.refl _ _ _) (.bl _)⟩)
    | exact False.elim h
/-- + : ints, texts, tuples -/
def fAdd : D → D → (D → Prop) → Prop := fun x y P => match x, y with
  | .int i, .int j => P (.int (i + j))
  | .str a, .str b => sz (a.length + b.length) ∧ P (.str (a ++ b))
  | .tup a, .tup b => sz (a.length + b.length) ∧ P (.tup (a ++ b))
  | _, _ => False
def rAdd (K : PySem.W.Frag) : R2 := fun x y H Q => (rI0 (fun i j => .int (i + j)) x y H Q ∨ (∃ i j, x = .str i ∧ y = .str j ∧ i.length + j.length ≤ sizeLine ∧ Q (.str (i ++ j)) H)) ∨ rCatA K x y H Q
theorem o_add : OpR X (binaryOp .Add) (rAdd X.K) ∧ OpD X B (rAdd X.K) fAdd := ⟨(op_add.or op_add_str).or op_catA, fun {Z S Γ σ H fp ofp x y vx vy Q P} r bx by_ h q => by
  cases x with
  | int i =>
    cases y with
    | int j => cases bx.int; cases by_.int; exact .inl (.inl ⟨_, _, rfl, rfl, q _ h Z H _ r (.refl _ _ _) (.int _)⟩)
    | _ => exact False.elim h
  | str i =>
    cases y with
    | str j => cases bx.str; cases by_.str; exact .inl (.inr ⟨_, _, rfl, rfl, h.1.ok, q _ h.2 Z H _ r (.refl _ _ _) (.str _)⟩)
    | _ => exact False.elim h
  | tup i =>
    cases y with
    | tup j =>
      obtain ⟨a, xs, rfl, f1, s1, d1⟩ := bx.tup r
      obtain ⟨b, ys, rfl, f2, s2, d2⟩ := by_.tup r
      refine .inr ⟨a, b, xs, ys, rfl, rfl, s1, s2, by rw [d1.length, d2.length]; exact h.1.ok, fun e => ?_, fun e1 e2 => ?_, fun e1 e2 p hp => ?_⟩
      · subst e
        cases d1
        exact q _ h.2 Z H _ r (.refl _ _ _) (.tup f2 d2)
      · subst e2
        cases d2
        have h2 := h.2
        rw [List.append_nil] at h2
        exact q _ h2 Z H _ r (.refl _ _ _) (.tup f1 d1)
      · have u := r.upF (o := .tup (xs ++ ys)) hp
        exact q _ h.2 _ _ _ (r.growF hp) u (.tup (SqT.of (show upd Z.F p (.tup (xs ++ ys)) p = _ from upd_same)) ((d1.append d2).up u))
    | _ => exact False.elim h
  | _ => exact False.elim h⟩
theorem o_sub : OpR X (binaryOp .Sub) (rI0 fun i j => .int (i - j)) ∧ OpD X B (rI0 fun i j => .int (i - j)) (i0 fun i j => .int (i - j)) := ⟨op_sub, od_I0⟩
/-- * : ints, a text and an int -/
def strMul (x : Str) (n : Int) : Str := ⟨((List.replicate n.toNat x.cps.toList).flatten).toArray⟩
theorem strMul_length (x : Str) (n : Int) : (strMul x n).length = x.length * n.toNat := by
  show ((List.replicate n.toNat x.cps.toList).flatten).toArray.size = x.cps.size * n.toNat
  rw [List.size_toArray, List.length_flatten, List.map_replicate, List.sum_replicate_nat, Array.length_toList, Nat.mul_comm]
theorem foldl_app (z : Array Nat) : ∀ (n : Nat) (acc : Array Nat), (List.replicate n z).foldl (· ++ ·) acc = acc ++ ((List.replicate n z.toList).flatten).toArray
  | 0, acc => by simp
  | n + 1, acc => by
    rw [List.replicate_succ, List.foldl_cons, foldl_app z n (acc ++ z), List.replicate_succ, List.flatten_cons]
    apply Array.ext'
    simp [List.append_assoc]
def rMulS : R2 := fun x y H Q => ∃ (z : Str) (n : Int), x = .str z ∧ y = .int n ∧ -(2 ^ 62) ≤ n ∧ n < 2 ^ 62 ∧ z.length * n.toNat ≤ 1000000 ∧ Q (.str (strMul z n)) H
theorem op_mulS : OpR X (binaryOp .Mult) rMulS := by
  intro pins s σ H x y v u Q I rx ry h
  obtain ⟨z, n, rfl, rfl, h1, h2, h3, q⟩ := h
  obtain ⟨t, rfl⟩ := rx
  obtain ⟨t', rfl⟩ := ry
  refine PySem.P.mul_str ?_ (fun k1 k2 => ?_) (fun k1 k2 => ?_) ?_
  · have e1 : ¬ n < -(2 ^ 63 : Int) := by omega
    have e2 : ¬ n ≥ (2 ^ 63 : Int) := by omega
    rw [decide_eq_false e1, decide_eq_false e2]
    rfl
  · have e3 : z.length ≤ 1000000 := by
      have : z.length * 1 ≤ z.length * n.toNat := Nat.mul_le_mul_left _ (by omega)
      rw [Nat.mul_one] at this
      exact Nat.le_trans this h3
    have e4 : (n.toNat : Int) = n := Int.toNat_of_nonneg (by omega)
    have h4 : ((z.length * n.toNat : Nat) : Int) ≤ ((1000000 : Nat) : Int) := Int.ofNat_le.mpr h3
    rw [Int.natCast_mul, e4] at h4
    have e5 : (z.length : Int) ≤ (2 ^ 63 - 1) / n := (Int.le_ediv_iff_mul_le (by omega)).mpr (Int.le_trans h4 (by decide))
    exact Int.not_lt.mpr e5
  · have : ¬ (z.length * n.toNat > sizeLine) := by
      have : (1000000 : Nat) ≤ sizeLine := by decide
      omega
    exact decide_eq_false this
  · by_cases k1 : n < 1
    · rw [if_pos k1]
      have e : n.toNat = 0 := by omega
      have es : strMul z n = Str.empty := by
        unfold strMul
        rw [e]
        rfl
      rw [es] at q
      exact ⟨by decide, .str _, H, I.tok _, ⟨_, rfl⟩, q⟩
    · rw [if_neg k1]
      by_cases k2 : (n == 1 || z.length == 0) = true
      · rw [if_pos k2]
        have es : strMul z n = z := by
          unfold strMul
          rcases Bool.or_eq_true_iff.mp k2 with k | k
          · have : n = 1 := eq_of_beq k
            subst this
            simp
          · have e0 : z.length = 0 := eq_of_beq k
            have : z.cps = #[] := Array.eq_empty_of_size_eq_zero e0
            obtain ⟨c⟩ := z
            simp only at this
            subst this
            simp
        rw [es] at q
        exact ⟨.str _, H, I, ⟨_, rfl⟩, q⟩
      · rw [if_neg k2]
        have es : (⟨(List.replicate n.toNat z.cps).foldl (· ++ ·) #[]⟩ : Str) = strMul z n := by
          unfold strMul
          rw [foldl_app]
          simp
        rw [es]
        refine ⟨?_, .str _, H, I.tok _, ⟨_, rfl⟩, q⟩
        rw [strMul_length]
        exact Nat.le_trans h3 (by decide)
def fMul : D → D → (D → Prop) → Prop := fun x y P => match x, y with
  | .int i, .int j => CMul i j ∧ P (.int (i * j))
  | .str a, .int n => (-(2 ^ 62) ≤ n ∧ n < 2 ^ 62 ∧ a.length * n.toNat ≤ 1000000) ∧ P (.str (strMul a n))
  | .tup ds, .int n => (ds ≠ [] ∧ 2 ≤ n ∧ n ≤ 1000 ∧ ds.length ≤ 1000) ∧ P (.tup (List.replicate n.toNat ds).flatten)
  | _, _ => False
theorem DVs.rep {K : PySem.W.Frag} {Z : Fz} {vs : List V} {ds : List D} (h : DVs K Z vs ds) : ∀ n, DVs K Z (List.replicate n vs).flatten (List.replicate n ds).flatten
  | 0 => .nil
  | n + 1 => by
    rw [List.replicate_succ, List.replicate_succ, List.flatten_cons, List.flatten_cons]
    exact h.append (DVs.rep h n)
def rMulD (K : PySem.W.Frag) : R2 := fun x y H Q => (rI CMul (fun i j => .int (i * j)) x y H Q ∨ rMulS x y H Q) ∨ rRepT K x y H Q
theorem o_mul : OpR X (binaryOp .Mult) (rMulD X.K) ∧ OpD X B (rMulD X.K) fMul := ⟨(op_mul.or op_mulS).or op_repT, fun {Z S Γ σ H fp ofp x y vx vy Q P} r bx by_ h q => by
  cases x with
  | int i =>
    cases y with
    | int j => cases bx.int; cases by_.int; exact .inl (.inl ⟨_, _, rfl, rfl, h.1, q _ h.2 Z H _ r (.refl _ _ _) (.int _)⟩)
    | _ => exact False.elim h
  | str i =>
    cases y with
    | int j => cases bx.str; cases by_.int; exact .inl (.inr ⟨_, _, rfl, rfl, h.1.1, h.1.2.1, h.1.2.2, q _ h.2 Z H _ r (.refl _ _ _) (.str _)⟩)
    | _ => exact False.elim h
  | tup ds =>
    cases y with
    | int j =>
      cases by_.int
      obtain ⟨p, us, rfl, hf, hs, hd⟩ := bx.tup r
      refine .inr ⟨p, j, us, rfl, rfl, hs, fun e => h.1.1 ?_, h.1.2.1, h.1.2.2.1, by rw [hd.length]; exact h.1.2.2.2, fun l hl => ?_⟩
      · subst e
        cases hd
        rfl
      · have u := r.upF (o := .tup (List.replicate j.toNat us).flatten) hl
        exact q _ h.2 _ _ _ (r.growF hl) u (.tup (SqT.of (show upd Z.F l (.tup (List.replicate j.toNat us).flatten) l = _ from upd_same)) ((hd.rep _).up u))
    | _ => exact False.elim h
  | _ => exact False.elim h⟩
theorem o_fdiv : OpR X (binaryOp .FloorDiv) (rI CDiv fun i j => .int (i / j)) ∧ OpD X B (rI CDiv fun i j => .int (i / j)) (iOp CDiv fun i j => .int (i / j)) := ⟨op_fdiv, od_I⟩
theorem o_mod : OpR X (binaryOp .Mod) (rI (fun _ j => 0 < j) fun i j => .int (i % j)) ∧ OpD X B (rI (fun _ j => 0 < j) fun i j => .int (i % j)) (iOp (fun _ j => 0 < j) fun i j => .int (i % j)) := ⟨op_mod, od_I⟩
theorem o_pow : OpR X (binaryOp .Pow) (rI CPow fun i j => .int (i ^ j.toNat)) ∧ OpD X B (rI CPow fun i j => .int (i ^ j.toNat)) (iOp CPow fun i j => .int (i ^ j.toNat)) := ⟨op_pow, od_I⟩
theorem o_shl : OpR X (binaryOp .LShift) (rI CPow fun i j => .int (i * 2 ^ j.toNat)) ∧ OpD X B (rI CPow fun i j => .int (i * 2 ^ j.toNat)) (iOp CPow fun i j => .int (i * 2 ^ j.toNat)) := ⟨op_shl, od_I⟩
theorem o_lt : OpR X (compareOp .Lt) (rI0 fun i j => .bl (decide (i < j))) ∧ OpD X B (rI0 fun i j => .bl (decide (i < j))) (i0 fun i j => .bl (decide (i < j))) := ⟨op_lt, od_B0⟩
theorem o_le : OpR X (compareOp .LtE) (rI0 fun i j => .bl (decide (i ≤ j))) ∧ OpD X B (rI0 fun i j => .bl (decide (i ≤ j))) (i0 fun i j => .bl (decide (i ≤ j))) := ⟨op_le, od_B0⟩
theorem o_gt : OpR X (compareOp .Gt) (rI0 fun i j => .bl (decide (j < i))) ∧ OpD X B (rI0 fun i j => .bl (decide (j < i))) (i0 fun i j => .bl (decide (j < i))) := ⟨op_gt, od_B0⟩
theorem o_ge : OpR X (compareOp .GtE) (rI0 fun i j => .bl (decide (j ≤ i))) ∧ OpD X B (rI0 fun i j => .bl (decide (j ≤ i))) (i0 fun i j => .bl (decide (j ≤ i))) := ⟨op_ge, od_B0⟩
/-! ### is -/
def isNon : D → Bool
  | .non => true
  | _ => false
theorem BV.isNon {K : PySem.W.Frag} {Z : Fz} {S : Sto} {σ : L2.St} {Γ : Gm} {H : Hp} {fp ofp : List Addr} (r : R K B Z S Γ σ H fp ofp) {v : V} {d : D} (h : BV K Z σ Γ v d) : decide (v = .non) = DL.isNon d := by
  rcases h with h | ⟨i, ds, h1, h2, rfl⟩
  · cases h with
    | non => rfl
    | val f => cases v <;> first | rfl | exact f.elim
    | _ => rfl
  · obtain ⟨a, xs, rfl, _⟩ := BV.list r (.inr ⟨i, ds, h1, h2, rfl⟩)
    rfl
theorem BQ.isNon {K : PySem.W.Frag} {Z : Fz} {S : Sto} {σ : L2.St} {Γ : Gm} {H : Hp} {fp ofp : List Addr} (r : R K B Z S Γ σ H fp ofp) {v : V} {d : D} (h : BQ K Z S σ Γ v d) : decide (v = .non) = DL.isNon d := by
  rcases h with h | ⟨m, ds, rfl, rfl, h3⟩
  · exact h.isNon r
  · rfl
def fIsN : D → D → (D → Prop) → Prop := fun x y P => match y with
  | .non => P (.bl (isNon x))
  | _ => False
def fNotN : D → D → (D → Prop) → Prop := fun x y P => match y with
  | .non => P (.bl (!isNon x))
  | _ => False
theorem o_isN : OpR X (compareOp .Is) (fun x y H Q => y = .non ∧ Q (.bl (decide (x = .non))) H) ∧ OpD X B (fun x y H Q => y = .non ∧ Q (.bl (decide (x = .non))) H) fIsN := ⟨op_isN, fun {Z S Γ σ H fp ofp x y vx vy Q P} r bx by_ h q => by
  cases y with
  | non =>
    refine ⟨by_.non, ?_⟩
    rw [bx.isNon r]
    exact q _ h Z H _ r (.refl _ _ _) (.bl _)
  | _ => exact False.elim h⟩
theorem o_notN : OpR X (compareOp .IsNot) (fun x y H Q => y = .non ∧ Q (.bl (!decide (x = .non))) H) ∧ OpD X B (fun x y H Q => y = .non ∧ Q (.bl (!decide (x = .non))) H) fNotN := ⟨op_notN, fun {Z S Γ σ H fp ofp x y vx vy Q P} r bx by_ h q => by
  cases y with
  | non =>
    refine ⟨by_.non, ?_⟩
    rw [bx.isNon r]
    exact q _ h Z H _ r (.refl _ _ _) (.bl _)
  | _ => exact False.elim h⟩
def bOp (g : Bool → Bool → Bool) : D → D → (D → Prop) → Prop := fun x y P => match x, y with
  | .bl i, .bl j => P (.bl (g i j))
  | _, _ => False
theorem o_isB : OpR X (compareOp .Is) (fun x y H Q => ∃ a b, x = .bl a ∧ y = .bl b ∧ Q (.bl (decide (a = b))) H) ∧ OpD X B (fun x y H Q => ∃ a b, x = .bl a ∧ y = .bl b ∧ Q (.bl (decide (a = b))) H) (bOp fun a b => decide (a = b)) := ⟨op_is_bl, fun {Z S Γ σ H fp ofp x y vx vy Q P} r bx by_ h q => by
  cases x <;> cases y <;> first
    | (cases bx.bl; cases by_.bl; exact ⟨_, _, rfl, rfl, q _ h Z H _ r (.refl _ _ _) (.bl _)⟩)
    | exact False.elim h⟩
theorem o_notB : OpR X (compareOp .IsNot) (fun x y H Q => ∃ a b, x = .bl a ∧ y = .bl b ∧ Q (.bl (!decide (a = b))) H) ∧ OpD X B (fun x y H Q => ∃ a b, x = .bl a ∧ y = .bl b ∧ Q (.bl (!decide (a = b))) H) (bOp fun a b => !decide (a = b)) := ⟨op_isnot_bl, fun {Z S Γ σ H fp ofp x y vx vy Q P} r bx by_ h q => by
  cases x <;> cases y <;> first
    | (cases bx.bl; cases by_.bl; exact ⟨_, _, rfl, rfl, q _ h Z H _ r (.refl _ _ _) (.bl _)⟩)
    | exact False.elim h⟩
/-! ### in -/
def rInP (K : PySem.W.Frag) (neg : Bool) : R2 := fun x y H Q => ∃ d ds, Dp K H x d ∧ (Dp K H y (.list ds) ∨ Dp K H y (.tuple ds)) ∧ d.plain = true ∧ PyData.plainAll ds = true ∧ d.depth ≤ 60 ∧ Q (.bl (if neg then !(ds.any fun z => PyData.eqv z d) else ds.any fun z => PyData.eqv z d)) H
theorem op_inP (hu : X.A.units + 100 < cLine) : OpR X (compareOp .In) (rInP X.K false) := by
  intro pins s σ H x y v u Q I rx ry h
  obtain ⟨d, ds, hd, he, sd, se, hm, q⟩ := h
  obtain ⟨as, r1⟩ := Dp.reads I d x v hd rx
  have hu2 : X.A.units + 1 + min (PyData.depthAll ds) d.depth < cLine := by
    have := Nat.min_le_right (PyData.depthAll ds) d.depth
    omega
  rcases he with he | he
  · obtain ⟨bs, r2⟩ := Dp.reads I _ y u he ry
    exact SeqAt.in_list_data r2 r1 se sd hu2 ⟨.bl _, H, I, rfl, q⟩
  · obtain ⟨bs, r2⟩ := Dp.reads I _ y u he ry
    exact SeqAt.in_tuple_data r2 r1 se sd hu2 ⟨.bl _, H, I, rfl, q⟩
theorem op_notInP (hu : X.A.units + 100 < cLine) : OpR X (compareOp .NotIn) (rInP X.K true) := by
  intro pins s σ H x y v u Q I rx ry h
  obtain ⟨d, ds, hd, he, sd, se, hm, q⟩ := h
  obtain ⟨as, r1⟩ := Dp.reads I d x v hd rx
  have hu2 : X.A.units + 1 + min (PyData.depthAll ds) d.depth < cLine := by
    have := Nat.min_le_right (PyData.depthAll ds) d.depth
    omega
  rcases he with he | he
  · obtain ⟨bs, r2⟩ := Dp.reads I _ y u he ry
    exact SeqAt.notIn_list_data r2 r1 se sd hu2 ⟨.bl _, H, I, rfl, q⟩
  · obtain ⟨bs, r2⟩ := Dp.reads I _ y u he ry
    exact SeqAt.notIn_tuple_data r2 r1 se sd hu2 ⟨.bl _, H, I, rfl, q⟩
theorem any_py (x : D) : ∀ ds : List D, ((pyAll ds).any fun z => PyData.eqv z (py x)) = ds.any fun z => eqD z x
  | [] => rfl
  | d :: ds => by
    rw [pyAll, List.any_cons, List.any_cons, any_py x ds]
    rfl
def isOneSign : Str → Option Nat
  | ⟨⟨[c]⟩⟩ => some c
  | _ => none
theorem oneSign {x : Str} {c : Nat} (h : isOneSign x = some c) : x = ⟨#[c]⟩ := by
  unfold isOneSign at h
  split at h
  · cases h; rfl
  · cases h
def fIn (neg : Bool) : D → D → (D → Prop) → Prop := fun x y P => match y with
  | .lst ds => cmpOk x ∧ pyOkAll ds = true ∧ P (.bl (if neg then !(ds.any fun z => eqD z x) else ds.any fun z => eqD z x))
  | .tup ds => cmpOk x ∧ pyOkAll ds = true ∧ P (.bl (if neg then !(ds.any fun z => eqD z x) else ds.any fun z => eqD z x))
  | .str z => match x with
    | .str a => ∃ c, a = ⟨#[c]⟩ ∧ P (.bl (if neg then !decide (c ∈ z.cps.toList) else decide (c ∈ z.cps.toList)))
    | _ => False
  | _ => False
def rIn2 (K : PySem.W.Frag) (neg : Bool) : R2 := fun x y H Q => rInP K neg x y H Q ∨ (∃ (c : Nat) (z : Str), x = .str ⟨#[c]⟩ ∧ y = .str z ∧ Q (.bl (if neg then !decide (c ∈ z.cps.toList) else decide (c ∈ z.cps.toList))) H)
theorem od_in (neg : Bool) : OpD X B (rIn2 X.K neg) (fIn neg) := fun {Z S Γ σ H fp ofp x y vx vy Q P} r bx by_ h q => by
  cases y with
  | lst ds =>
    obtain ⟨h1, h2, h3⟩ := h
    rw [← any_py] at h3
    have hd := by_.dp r (d := .lst ds) (by rw [pyOk]; exact h2)
    rw [py] at hd
    exact .inl ⟨_, _, bx.dp r h1.1, .inl hd, py_plain _, py_plainAll _, h1.2, q _ h3 Z H _ r (.refl _ _ _) (.bl _)⟩
  | tup ds =>
    obtain ⟨h1, h2, h3⟩ := h
    rw [← any_py] at h3
    have hd := by_.dp r (d := .tup ds) (by rw [pyOk]; exact h2)
    rw [py] at hd
    exact .inl ⟨_, _, bx.dp r h1.1, .inr hd, py_plain _, py_plainAll _, h1.2, q _ h3 Z H _ r (.refl _ _ _) (.bl _)⟩
  | str z =>
    cases x with
    | str a =>
      obtain ⟨c, rfl, h⟩ := h
      cases bx.str
      cases by_.str
      exact .inr ⟨c, z, rfl, rfl, q _ h Z H _ r (.refl _ _ _) (.bl _)⟩
    | _ => exact False.elim h
  | _ => exact False.elim h
theorem o_in (hu : X.A.units + 100 < cLine) : OpR X (compareOp .In) (rIn2 X.K false) ∧ OpD X B (rIn2 X.K false) (fIn false) := ⟨(op_inP hu).or op_in_sign, od_in false⟩
theorem o_notIn (hu : X.A.units + 100 < cLine) : OpR X (compareOp .NotIn) (rIn2 X.K true) ∧ OpD X B (rIn2 X.K true) (fIn true) := ⟨(op_notInP hu).or op_notIn_sign, od_in true⟩

/-! ### subscripts -/
variable {a b e : Expr} {ta tb te : DE} {pos p2 : Pos} {to : DA}
theorem DVs.at {K : PySem.W.Frag} {Z : Fz} {vs : List V} {ds : List D} {i : Int} {d : D} (q : DVs K Z vs ds) (h : atI ds i = some d) : ∃ v, atI vs i = some v ∧ DV K Z v d := by
  unfold atI at h ⊢
  rw [q.length]
  cases e : ixN ds.length i with
  | none => rw [e] at h; cases h
  | some j =>
    rw [e] at h
    obtain ⟨v, h1, h2⟩ := q.getD (i := j) h
    exact ⟨v, h1, h2⟩
def fIx : D → D → (D → Prop) → Prop := fun x y P => match x, y with
  | .lst ds, .int i => ∃ d, atI ds i = some d ∧ P d
  | .tup ds, .int i => ∃ d, atI ds i = some d ∧ P d
  | .str z, .int i => sz z.length ∧ ∃ c, atI z.cps.toList i = some c ∧ P (.str ⟨#[c]⟩)
  | _, _ => False
theorem od_ix : OpD X B (rIx X.K) fIx := fun {Z S Γ σ H fp ofp x y vx vy Q P} r bx by_ h q => by
  cases y with
  | int i =>
    cases by_.int
    cases x with
    | lst ds =>
      obtain ⟨d, h1, h2⟩ := h
      obtain ⟨p, xs, rfl, hs, hd⟩ := bx.list r
      obtain ⟨v, e1, dv⟩ := hd.at h1
      exact .inl ⟨p, xs, i, v, rfl, rfl, hs, e1, q _ h2 Z H _ r (.refl _ _ _) dv⟩
    | tup ds =>
      obtain ⟨d, h1, h2⟩ := h
      obtain ⟨p, xs, rfl, _, hs, hd⟩ := bx.tup r
      obtain ⟨v, e1, dv⟩ := hd.at h1
      exact .inr (.inl ⟨p, xs, i, v, rfl, rfl, hs, e1, q _ h2 Z H _ r (.refl _ _ _) dv⟩)
    | str z =>
      obtain ⟨hz, c, h1, h2⟩ := h
      cases bx.str
      exact .inr (.inr ⟨z, i, c, rfl, rfl, hz.ok, h1, q _ h2 Z H _ r (.refl _ _ _) (.str _)⟩)
    | _ => exact False.elim h
  | _ => exact (by cases x <;> exact False.elim h)
theorem pd_ix (ha : PB X B a ta) (hb : PB X B b tb) (hs : PlainIx b := by exact fun _ _ => rfl) : PD X B (.Subscript a b pos) (dOp fIx ta tb) := PE.weak (pe_ix ix_seq ha hb hs) fun σ H Q h => opd_run od_ix h
/-- a slice's part -/
def liftP (K : PySem.W.Frag) (B : Bs) (tp : Gm → Sto → (Option Int → Sto → Prop) → Prop) : TO := fun σ H Q => ∃ Z S Γ fp ofp P, R K B Z S Γ σ H fp ofp ∧ tp Γ S P ∧
  ∀ o S', P o S' → ∀ Z' H' fp', R K B Z' S' Γ σ H' fp' ofp → Up Z H fp Z' H' fp' → Q o H'
abbrev DP := Gm → Sto → (Option Int → Sto → Prop) → Prop
theorem PO.weak {e : Option Expr} {t t' : TO} (h : L2.PO X e t) (k : ∀ σ H Q, t' σ H Q → t σ H Q) : L2.PO X e t' := ⟨fun pins s σ H Q I q => h.run pins s σ H Q I (k _ _ _ q)⟩
abbrev PPD (X : Cx) (B : Bs) (e : Option Expr) (t : DP) : Prop := L2.PO X e (liftP X.K B t)
def dP0 : DP := fun _ S Q => Q none S
def dP1 (te : DE) : DP := fun Γ S Q => te Γ S fun x S1 => match x with
  | .int i => Q (some i) S1
  | _ => False
theorem pp_none : PPD X B none dP0 := PO.weak po_none fun σ H Q h => by
  obtain ⟨Z, S, Γ, fp, ofp, P, r, h, q⟩ := h
  exact q _ _ h Z H fp r (.refl _ _ _)
theorem pp_some (h : PD X B e te) : PPD X B (some e) (dP1 te) := PO.weak (po_some h) fun σ H Q h => by
  obtain ⟨Z, S, Γ, fp, ofp, P, r, h, q⟩ := h
  refine ⟨Z, S, Γ, fp, ofp, _, r, h, fun x S1 h1 Z1 H1 fp1 vx r1 l1 b1 => ?_⟩
  cases x with
  | int i =>
    cases b1
    exact ⟨i, rfl, q _ S1 h1 Z1 H1 fp1 r1 l1⟩
  | _ => exact False.elim h1
/-- xs[lo:hi] by items -/
def cutL {α : Type} (xs : List α) (lo hi : Option Int) : List α := (xs.drop (HT.sIx xs.length 0 lo)).take (HT.sIx xs.length xs.length hi - HT.sIx xs.length 0 lo)
theorem DVs.cut {K : PySem.W.Frag} {Z : Fz} {vs : List V} {ds : List D} (q : DVs K Z vs ds) (lo hi : Option Int) : DVs K Z (cutV vs lo hi) (cutL ds lo hi) := by
  unfold cutV cutL
  rw [q.length]
  exact (q.drop _).take _
def fSl : D → Option Int → Option Int → (D → Prop) → Prop := fun x lo hi P => match x with
  | .tup ds => P (.tup (cutL ds lo hi))
  | .str z => sz z.length ∧ P (.str (cutS z lo hi))
  | .lst ds => P (.lst (cutL ds lo hi))
  | _ => False
def dSl (te : DE) (tl th : DP) : DE := fun Γ S Q => te Γ S fun x S1 => tl Γ S1 fun lo S2 => th Γ S2 fun hi S3 => fSl (der S3 x) lo hi fun z => Q z S3
def rSl3 (K : PySem.W.Frag) : V → Option Int → Option Int → Hp → VK → Prop := fun x lo hi H Q => (rSlA K x lo hi H Q ∨ rSlS x lo hi H Q) ∨ rSlL K x lo hi H Q
theorem sl_3 : SlR X (rSl3 X.K) := (sl_tupA.or sl_str).or sl_list
variable {lo hi : Option Expr} {tl th : DP}
theorem cut_whole {α : Type} {xs : List α} {lo hi : Option Int} (h : HT.sIx xs.length 0 lo = 0 ∧ HT.sIx xs.length xs.length hi = xs.length) : cutL xs lo hi = xs := by
  unfold cutL
  rw [h.1, h.2]
  simp
theorem pd_slice (he : PB X B e te) (hl : PPD X B lo tl) (hh : PPD X B hi th) : PD X B (.Subscript e (.Slice lo hi none p2) pos) (dSl te tl th) := PE.weak (pe_slice sl_3 he hl hh) fun σ H Q h => by
  obtain ⟨Z, S, Γ, fp, ofp, P, r, h, q⟩ := h
  refine ⟨Z, S, Γ, fp, ofp, _, r, h, fun x S1 h1 Z1 H1 fp1 vx r1 u1 b1 => ?_⟩
  refine ⟨Z1, S1, Γ, fp1, ofp, _, r1, h1, fun l S2 h2 Z2 H2 fp2 r2 u2 => ?_⟩
  refine ⟨Z2, S2, Γ, fp2, ofp, _, r2, h2, fun u S3 h3 Z3 H3 fp3 r3 u3 => ?_⟩
  have b3 := ((b1.up u2).up u3).der (S := S3)
  have ut := (u1.trans u2).trans u3
  generalize DL.der S3 x = x at b3 h3
  cases x with
  | tup ds =>
    obtain ⟨p, xs, rfl, f1, s1, d1⟩ := b3.tup r3
    refine .inl (.inl ⟨p, xs, rfl, s1, fun hw => ?_, fun hw p hp => ?_⟩)
    · rw [d1.length] at hw
      have h3' : P (.tup (cutL ds l u)) S3 := h3
      rw [cut_whole hw] at h3'
      exact q _ S3 h3' Z3 H3 fp3 _ r3 ut (.tup f1 d1)
    · have u4 := r3.upF (o := .tup (cutV xs l u)) hp
      exact q _ S3 h3 _ _ fp3 _ (r3.growF hp) (ut.trans u4) (.tup (SqT.of (show upd Z3.F p (.tup (cutV xs l u)) p = _ from upd_same)) ((d1.cut l u).up u4))
  | str z =>
    cases b3.str
    exact .inl (.inr ⟨z, rfl, h3.1.ok, q _ S3 h3.2 Z3 H3 fp3 _ r3 ut (.str _)⟩)
  | lst ds =>
    obtain ⟨p, xs, rfl, s1, d1⟩ := b3.list r3
    refine .inr ⟨p, xs, rfl, s1, fun p hp => ?_⟩
    have u4 := r3.upF (o := .lst (cutV xs l u)) hp
    exact q _ S3 h3 _ _ fp3 _ (r3.growF hp) (ut.trans u4) (.lst (SqL.of (show upd Z3.F p (.lst (cutV xs l u)) p = _ from upd_same)) ((d1.cut l u).up u4))
  | _ => exact False.elim h3
end
end DL
namespace DL
open PySem PySem.Spec PyProof.Rows L2
section
variable {K : PySem.W.Frag} {Z : Fz} {σ : L2.St} {Γ : Gm} {B : Bs} {S : Sto} {H : Hp} {fp ofp : List Addr}
/-! ### isinstance -/
def tyName : D → Option String
  | .non => some "NoneType"
  | .bl _ => some "bool"
  | .int _ => some "int"
  | .str _ => some "str"
  | .tup _ => some "tuple"
  | .lst _ => some "list"
  | .edict => some "dict"
  | _ => none
def isT (a b : String) : Option Bool :=
  if b = "str" then some (a == "str") else if b = "int" then some (a == "int" || a == "bool") else if b = "bool" then some (a == "bool")
  else if b = "tuple" then some (a == "tuple") else if b = "list" then some (a == "list") else if b = "dict" then some (a == "dict") else none
theorem isT_kit {x : D} {a b : String} {k : Bool} (ha : tyName x = some a) (h : isT a b = some k) : kitB a b = some k := by
  have hb : b = "str" ∨ b = "int" ∨ b = "bool" ∨ b = "tuple" ∨ b = "list" ∨ b = "dict" := by
    unfold isT at h
    repeat (split at h; · simp_all)
    cases h
  have hA : a = "NoneType" ∨ a = "bool" ∨ a = "int" ∨ a = "str" ∨ a = "tuple" ∨ a = "list" ∨ a = "dict" := by
    cases x <;> first | (cases ha; done) | (cases ha; simp)
  rcases hA with rfl | rfl | rfl | rfl | rfl | rfl | rfl <;> rcases hb with rfl | rfl | rfl | rfl | rfl | rfl <;>
    (rw [show k = _ from (Option.some.inj h).symm]; decide +kernel)
theorem dv_ty (fr : ∀ a o, Z.F a = some o → H a = some o) {v : V} {d : D} {n : String} (h : DV K Z v d) (e : tyName d = some n) : TyX K H v (.type n) := by
  cases h with
  | non => cases e; exact .base .non
  | bl b => cases e; exact .base (.bl b)
  | int i => cases e; exact .base (.int i)
  | str s => cases e; exact .base (.str s)
  | tup h q =>
    cases e
    rcases same_sqT fr h with (h | ⟨o, h⟩) | ⟨o, its, n, h1, h2, _⟩
    · exact .base (.tup h)
    · exact .fTuple h
    · exact .kTuple h1 h2
  | lst h q =>
    cases e
    rcases same_sqL fr h with (h | ⟨o, h⟩) | ⟨o, its, n, h1, h2, _⟩
    · exact .base (.lst h)
    · exact .base (.frz h)
    · exact .kList h1 h2
  | edict h => cases e; exact .base (.dK (fr _ _ h))
  | _ => cases e
theorem BV.ty (r : R K B Z S Γ σ H fp ofp) {v : V} {d : D} {n : String} (h : BV K Z σ Γ v d) (e : tyName d = some n) : TyX K H v (.type n) := by
  rcases h with h | ⟨i, ds, h1, h2, rfl⟩
  · exact dv_ty r.fr h e
  · cases e
    obtain ⟨a, xs, e1, k, d1, _⟩ := r.write (ds' := []) h2
    rw [h1] at e1
    cases e1
    exact .base (.lst k)
theorem BQ.ty (r : R K B Z S Γ σ H fp ofp) {v : V} {d : D} {n : String} (h : BQ K Z S σ Γ v d) (e : tyName d = some n) : TyX K H v (.type n) := by
  rcases h with h | ⟨m, ds, rfl, rfl, h3⟩
  · exact h.ty r e
  · cases e
    obtain ⟨as, oc, _⟩ := r.cell h3
    cases oc with
    | lst h1 h2 => exact .base (.lst h1)
def clsU : V → Value
  | .ty n => .type n
  | .ref C => .ref C
  | _ => .none
def isiOne (K : PySem.W.Frag) (x : D) (c : V) : Option Bool := match x, c with
  | .exc d, c => PySem.W.kitOne K d (clsU c)
  | x, .ty n => (tyName x).bind fun a => isT a n
  | _, _ => none
def allVal : List D → Bool
  | [] => true
  | .val _ :: cs => allVal cs
  | _ => false
def isiSome (K : PySem.W.Frag) (x : D) : List D → Option Bool
  | [] => some false
  | .val c :: cs => match isiOne K x c with
    | some true => some true
    | some false => isiSome K x cs
    | none => none
  | _ => none
def fIsi (K : PySem.W.Frag) : List D → (D → Prop) → Prop := fun xs P => match xs with
  | [x, .val c] => ∃ b, isiOne K x c = some b ∧ P (.bl b)
  | [x, .tup cs] => (cs ≠ [] ∧ allVal cs = true) ∧ ∃ b, isiSome K x cs = some b ∧ P (.bl b)
  | _ => False
end
section
variable {X : Cx} {B : Bs}
/-- isinstance of a caught error that is tracked -/
def rIsE2 (K : PySem.W.Frag) : List V → Hp → VK → Prop := fun xs H Q => ∃ (a C : Addr) (c : V) (cv : Value) (b : Bool), xs = [.ref a, c] ∧ H a = some (ExH (.ref C) a) ∧ ExcC K C ∧ ClsV c cv ∧ PySem.W.kitOne K (.ref C) cv = some b ∧ Q (.bl b) H
theorem call_isE2 : CallR X (.builtin "isinstance") (rIsE2 X.K) := by
  intro pins s σ H xs us Q I r h
  obtain ⟨a, C, c, cv, b, rfl, hH, hC, hcv, e, q⟩ := h
  obtain ⟨u1, u2, rfl, r1, r2⟩ := vals2 r
  cases (show u1 = Value.ref a from r1)
  have e2 := hcv.eq r2
  subst e2
  obtain ⟨⟨oe, vs, g, z, d⟩, _⟩ := (show ObjOk X.prog X.w H s.heap a (ExH (.ref C) a) from I.hok a _ hH)
  have J : PySem.W.InstAt s.heap a oe C none := by
    obtain ⟨oc, od, oda, osl⟩ := oe
    obtain ⟨h1, h2⟩ := z
    dsimp only at h1 h2 d
    subst h1 h2 d
    exact ⟨g, rfl, rfl, trivial⟩
  exact PySem.W.kia_one (PySem.W.handS_kitx_exc hC.hg hC.hk hC.hs hC.hd hC.ha hC.hn hC.ht hC.hm) I.kIn J e (fun z => nomatch z) fun tk => ⟨.bl b, H, I.kept (t' := tk) fun _ _ z => z, rfl, q⟩
def rIsiT2 (K : PySem.W.Frag) : List V → Hp → VK → Prop := fun xs H Q => ∃ (x : V) (tp : Addr) (cs : List V) (t : Value) (us : List Value) (b : Bool), xs = [x, .ref tp] ∧ SqT K H tp cs ∧ Paired ClsV cs us ∧ TyX K H x t ∧ PySem.W.kitAny K t us = some b ∧ Q (.bl b) H
theorem call_isiT2 : CallR X (.builtin "isinstance") (rIsiT2 X.K) := by
  intro pins s σ H xs us Q I r h
  obtain ⟨x, tp, cs, t, ws, b, rfl, hT, k, ty, e, q⟩ := h
  obtain ⟨u1, u2, rfl, r1, r2⟩ := vals2 r
  cases (show u2 = Value.ref tp from r2)
  obtain ⟨P, Z, p, hx⟩ := kit_of I r1 ty
  obtain ⟨its, rv, ⟨o, h1, h2, n, h3⟩, _⟩ := I.tuple hT
  have e3 := ClsV.all k rv
  subst e3
  obtain ⟨oc, od, dt, sl⟩ := o
  simp only at h2 h3
  subst h2 h3
  exact PySem.W.kia_tup Z I.kIn p h1 e hx fun tk => ⟨.bl b, H, I.tok tk, rfl, q⟩
def rIsE3 (K : PySem.W.Frag) : List V → Hp → VK → Prop := fun xs H Q => ∃ (a C tp : Addr) (cs : List V) (us : List Value) (b : Bool), xs = [.ref a, .ref tp] ∧ SqT K H tp cs ∧ H a = some (ExH (.ref C) a) ∧ ExcC K C ∧ Paired ClsV cs us ∧ PySem.W.kitAny K (.ref C) us = some b ∧ Q (.bl b) H
theorem call_isE3 : CallR X (.builtin "isinstance") (rIsE3 X.K) := by
  intro pins s σ H xs us Q I r h
  obtain ⟨a, C, tp, cs, ws, b, rfl, hT, hH, hC, k, e, q⟩ := h
  obtain ⟨u1, u2, rfl, r1, r2⟩ := vals2 r
  cases (show u1 = Value.ref a from r1)
  cases (show u2 = Value.ref tp from r2)
  obtain ⟨⟨oe, vs, g, z, d⟩, _⟩ := (show ObjOk X.prog X.w H s.heap a (ExH (.ref C) a) from I.hok a _ hH)
  have J : PySem.W.InstAt s.heap a oe C none := by
    obtain ⟨oc, od, oda, osl⟩ := oe
    obtain ⟨h1, h2⟩ := z
    dsimp only at h1 h2 d
    subst h1 h2 d
    exact ⟨g, rfl, rfl, trivial⟩
  obtain ⟨its, rv, ⟨o, h1, h2, n, h3⟩, _⟩ := I.tuple hT
  have e3 := ClsV.all k rv
  subst e3
  obtain ⟨oc, od, dt, sl⟩ := o
  simp only at h2 h3
  subst h2 h3
  exact PySem.W.kia_tup (PySem.W.handS_kitx_exc hC.hg hC.hk hC.hs hC.hd hC.ha hC.hn hC.ht hC.hm) I.kIn J h1 e (fun z => nomatch z) fun tk => ⟨.bl b, H, I.kept (t' := tk) fun _ _ z => z, rfl, q⟩
theorem flat_cls {c : V} (h : Flat c) : ClsV c (clsU c) := by
  cases c with
  | ty n => exact .ty n
  | ref a => exact .own a
  | _ => exact h.elim
theorem vals_cls {K : PySem.W.Frag} {Z : Fz} : ∀ {cs : List D} {vs : List V}, DVs K Z vs cs → allVal cs = true → Paired ClsV vs (vs.map clsU)
  | [], _, .nil, _ => .nil
  | c :: cs, _, .cons h1 h2, h => by
    cases h1 with
    | val f => exact .cons (flat_cls f) (vals_cls h2 h)
    | _ => cases h
theorem isi_kit {K : PySem.W.Frag} {Z : Fz} {x : D} {t : Value} (hx : ∀ c b, isiOne K x c = some b → PySem.W.kitOne K t (clsU c) = some b) : ∀ {cs : List D} {vs : List V} {b : Bool}, DVs K Z vs cs → isiSome K x cs = some b → PySem.W.kitAny K t (vs.map clsU) = some b
  | [], _, b, .nil, h => by
    cases h
    rfl
  | c :: cs, _, b, .cons (v := v) h1 h2, h => by
    cases h1 with
    | val f =>
      have h' : (match isiOne K x v with | some true => some true | some false => isiSome K x cs | none => none) = some b := h
      cases e : isiOne K x v with
      | none => rw [e] at h'; cases h'
      | some k =>
        rw [e] at h'
        have hk := hx v k e
        cases k with
        | true =>
          cases h'
          exact kitAny_cons hk (fun z => nomatch z) (fun _ => rfl)
        | false => exact kitAny_cons hk (fun _ => isi_kit hx h2 h') (fun z => nomatch z)
    | _ => cases h
def rIsiD (K : PySem.W.Frag) : List V → Hp → VK → Prop := fun xs H Q => ((rIsi K xs H Q ∨ rIsiT2 K xs H Q) ∨ rIsE2 K xs H Q) ∨ rIsE3 K xs H Q
theorem isiOne_ty {K : PySem.W.Frag} {x : D} {n : String} (hn : tyName x = some n) : ∀ c b, isiOne K x c = some b → PySem.W.kitOne K (.type n) (clsU c) = some b := fun c b h => by
  have hx : ∀ d, x ≠ .exc d := fun d e => by
    subst e
    cases hn
  cases c with
  | ty m =>
    have h' : (tyName x).bind (fun a => isT a m) = some b := by
      cases x <;> first | exact h | exact absurd rfl (hx _)
    rw [hn] at h'
    exact kit_ty (isT_kit hn h')
  | _ => cases x <;> first | cases h | exact absurd rfl (hx _)
theorem isiOne_ex {K : PySem.W.Frag} {x : D} {c : V} {b : Bool} (h : isiOne K x c = some b) : (∃ n, tyName x = some n) ∨ ∃ d, x = .exc d := by
  cases x with
  | exc d => exact .inr ⟨d, rfl⟩
  | edict => exact .inl ⟨_, rfl⟩
  | ref n => cases c <;> cases h
  | val v => cases c <;> cases h
  | _ => exact .inl ⟨_, rfl⟩
theorem o_isi : CallR X (.builtin "isinstance") (rIsiD X.K) ∧ CallD X B (rIsiD X.K) (fIsi X.K) := ⟨((call_isi.or call_isiT2).or call_isE2).or call_isE3, fun {Z S Γ σ H fp ofp xs vs Q P} r bv h q => by
  unfold fIsi at h
  split at h
  · rename_i x c
    obtain ⟨b, e, h⟩ := h
    cases bv with
    | cons b1 b2 =>
      cases b2 with
      | cons b2 b3 =>
        cases b3
        cases b2.dv (fun _ z => nomatch z) with
        | val f =>
          rcases isiOne_ex e with ⟨n, hn⟩ | ⟨d, rfl⟩
          · exact .inl (.inl (.inl ⟨_, _, .type n, clsU c, b, rfl, flat_cls f, b1.ty r hn, isiOne_ty hn _ _ e, q _ h Z H _ r (.refl _ _ _) (.bl _)⟩))
          · cases b1.dv (fun _ z => nomatch z) with
            | exc k1 k2 =>
              refine .inl (.inr ⟨_, _, _, clsU c, b, rfl, r.fr _ _ k1, k2, flat_cls f, ?_, q _ h Z H _ r (.refl _ _ _) (.bl _)⟩)
              cases c <;> exact e
  · rename_i x cs
    obtain ⟨⟨hne, hv⟩, b, e, h⟩ := h
    cases bv with
    | cons b1 b2 =>
      cases b2 with
      | cons b2 b3 =>
        cases b3
        obtain ⟨tp, us, rfl, _, hT, dT⟩ := b2.tup r
        have pc := vals_cls dT hv
        by_cases hn : ∃ n, tyName x = some n
        · obtain ⟨n, hn⟩ := hn
          exact .inl (.inl (.inr ⟨_, tp, us, .type n, _, b, rfl, hT, pc, b1.ty r hn, isi_kit (isiOne_ty hn) dT e, q _ h Z H _ r (.refl _ _ _) (.bl _)⟩))
        · cases b1.dv (fun ds z => hn ⟨_, by rw [z]; rfl⟩) with
          | exc k1 k2 => exact .inr ⟨_, _, tp, us, _, b, rfl, hT, r.fr _ _ k1, k2, pc, isi_kit (fun c b' h' => by cases c <;> exact h') dT e, q _ h Z H _ r (.refl _ _ _) (.bl _)⟩
          | ref k =>
            cases cs with
            | nil => exact absurd rfl hne
            | cons c cs => cases c <;> first | (cases e; done) | (rename_i v; cases v <;> cases e)
          | val f =>
            cases cs with
            | nil => exact absurd rfl hne
            | cons c cs => cases c <;> first | (cases e; done) | (rename_i v; cases v <;> cases e)
          | _ => exact absurd ⟨_, rfl⟩ hn
  · exact h.elim⟩
/-! ### other built-ins -/
variable {a b e : Expr} {ta tb te : DE} {pos p2 : Pos} {to : DA} {es : List Expr} {tr : DA}
def fLen : List D → (D → Prop) → Prop := fun xs P => match xs with
  | [.lst ds] => P (.int ds.length)
  | [.tup ds] => P (.int ds.length)
  | [.str z] => sz z.length ∧ P (.int z.length)
  | _ => False
def rLenD (K : PySem.W.Frag) : List V → Hp → VK → Prop := fun xs H Q => (∃ p ys, xs = [.ref p] ∧ (SqL K H p ys ∨ SqT K H p ys) ∧ Q (.int ys.length) H) ∨ (∃ z, xs = [.str z] ∧ z.length ≤ sizeLine ∧ Q (.int z.length) H)
theorem o_len : CallR X (.builtin "len") (rLenD X.K) ∧ CallD X B (rLenD X.K) fLen := ⟨call_len_seq.or call_len_str, fun {Z S Γ σ H fp ofp xs vs Q P} r bv h q => by
  unfold fLen at h
  split at h
  · cases bv with
    | cons b1 b2 =>
      cases b2
      obtain ⟨p, us, rfl, hs, hd⟩ := b1.list r
      rw [← hd.length] at h
      exact .inl ⟨p, us, rfl, .inl hs, q _ h Z H _ r (.refl _ _ _) (.int _)⟩
  · cases bv with
    | cons b1 b2 =>
      cases b2
      obtain ⟨p, us, rfl, _, hs, hd⟩ := b1.tup r
      rw [← hd.length] at h
      exact .inl ⟨p, us, rfl, .inr hs, q _ h Z H _ r (.refl _ _ _) (.int _)⟩
  · cases bv with
    | cons b1 b2 =>
      cases b2
      cases b1.str
      exact .inr ⟨_, rfl, h.1.ok, q _ h.2 Z H _ r (.refl _ _ _) (.int _)⟩
  · exact h.elim⟩
/-- the truth values of a list -/
def boolsOf : List D → Option (List Bool)
  | [] => some []
  | .bl b :: r => (boolsOf r).map (b :: ·)
  | _ => none
theorem boolsOf_map : ∀ bs : List Bool, boolsOf (bs.map D.bl) = some bs
  | [] => rfl
  | b :: bs => by
    show (boolsOf (bs.map D.bl)).map (b :: ·) = _
    rw [boolsOf_map bs]
    rfl
theorem boolsOf_eq : ∀ {ds : List D} {bs : List Bool}, boolsOf ds = some bs → ds = bs.map D.bl
  | [], bs, h => by
    cases h
    rfl
  | d :: ds, bs, h => by
    cases d with
    | bl b =>
      have h' : (boolsOf ds).map (b :: ·) = some bs := h
      cases e : boolsOf ds with
      | none => rw [e] at h'; cases h'
      | some cs =>
        rw [e] at h'
        cases h'
        rw [boolsOf_eq e]
        rfl
    | _ => cases h
def fAll : List D → (D → Prop) → Prop := fun xs P => match xs with
  | [.lst ds] => ∃ bs, boolsOf ds = some bs ∧ P (.bl (bs.all id))
  | _ => False
def fAny : List D → (D → Prop) → Prop := fun xs P => match xs with
  | [.lst ds] => ∃ bs, boolsOf ds = some bs ∧ P (.bl (bs.any id))
  | _ => False
theorem o_all (hc : X.calm = true) : CallR X (.builtin "all") (rAll X.K) ∧ CallD X B (rAll X.K) fAll := ⟨cr_all hc, fun {Z S Γ σ H fp ofp xs vs Q P} r bv h q => by
  unfold fAll at h
  split at h
  · obtain ⟨bs, e, h⟩ := h
    cases bv with
    | cons b1 b2 =>
      cases b2
      obtain ⟨p, us, rfl, hs, hd⟩ := b1.list r
      rw [boolsOf_eq e] at hd
      rw [hd.of_bls] at hs
      exact ⟨p, bs, rfl, hs, q _ h Z H _ r (.refl _ _ _) (.bl _)⟩
  · exact h.elim⟩
theorem o_any (hc : X.calm = true) : CallR X (.builtin "any") (rAny X.K) ∧ CallD X B (rAny X.K) fAny := ⟨cr_any hc, fun {Z S Γ σ H fp ofp xs vs Q P} r bv h q => by
  unfold fAny at h
  split at h
  · obtain ⟨bs, e, h⟩ := h
    cases bv with
    | cons b1 b2 =>
      cases b2
      obtain ⟨p, us, rfl, hs, hd⟩ := b1.list r
      rw [boolsOf_eq e] at hd
      rw [hd.of_bls] at hs
      exact ⟨p, bs, rfl, hs, q _ h Z H _ r (.refl _ _ _) (.bl _)⟩
  · exact h.elim⟩
def fMax2 : List D → (D → Prop) → Prop := fun xs P => match xs with
  | [.int i, .int j] => P (.int (if j > i then j else i))
  | _ => False
def fMin2 : List D → (D → Prop) → Prop := fun xs P => match xs with
  | [.int i, .int j] => P (.int (if j < i then j else i))
  | _ => False
theorem o_max2 (hc : X.calm = true) : CallR X (.builtin "max") (fun xs H Q => ∃ i j, xs = [.int i, .int j] ∧ Q (.int (if j > i then j else i)) H) ∧ CallD X B (fun xs H Q => ∃ i j, xs = [.int i, .int j] ∧ Q (.int (if j > i then j else i)) H) fMax2 := ⟨call_max2 hc, fun {Z S Γ σ H fp ofp xs vs Q P} r bv h q => by
  unfold fMax2 at h
  split at h
  · cases bv with
    | cons b1 b2 =>
      cases b2 with
      | cons b2 b3 =>
        cases b3
        cases b1.int
        cases b2.int
        exact ⟨_, _, rfl, q _ h Z H _ r (.refl _ _ _) (.int _)⟩
  · exact h.elim⟩
theorem o_min2 (hc : X.calm = true) : CallR X (.builtin "min") (fun xs H Q => ∃ i j, xs = [.int i, .int j] ∧ Q (.int (if j < i then j else i)) H) ∧ CallD X B (fun xs H Q => ∃ i j, xs = [.int i, .int j] ∧ Q (.int (if j < i then j else i)) H) fMin2 := ⟨call_min2 hc, fun {Z S Γ σ H fp ofp xs vs Q P} r bv h q => by
  unfold fMin2 at h
  split at h
  · cases bv with
    | cons b1 b2 =>
      cases b2 with
      | cons b2 b3 =>
        cases b3
        cases b1.int
        cases b2.int
        exact ⟨_, _, rfl, q _ h Z H _ r (.refl _ _ _) (.int _)⟩
  · exact h.elim⟩
def fInt : List D → (D → Prop) → Prop := fun xs P => match xs with
  | [.int i] => P (.int i)
  | [.bl k] => P (.int (if k then 1 else 0))
  | _ => False
theorem o_int : CallR X (.type "int") (fun xs H Q => (∃ i, xs = [.int i] ∧ Q (.int i) H) ∨ ∃ k, xs = [.bl k] ∧ Q (.int (if k then 1 else 0)) H) ∧ CallD X B (fun xs H Q => (∃ i, xs = [.int i] ∧ Q (.int i) H) ∨ ∃ k, xs = [.bl k] ∧ Q (.int (if k then 1 else 0)) H) fInt := ⟨call_int1, fun {Z S Γ σ H fp ofp xs vs Q P} r bv h q => by
  unfold fInt at h
  split at h
  · cases bv with
    | cons b1 b2 =>
      cases b2
      cases b1.int
      exact .inl ⟨_, rfl, q _ h Z H _ r (.refl _ _ _) (.int _)⟩
  · cases bv with
    | cons b1 b2 =>
      cases b2
      cases b1.bl
      exact .inr ⟨_, rfl, q _ h Z H _ r (.refl _ _ _) (.int _)⟩
  · exact h.elim⟩
/-- list(xs) -/
def fList : List D → (List D → Prop) → Prop := fun xs P => match xs with
  | [.lst ds] => P ds
  | [.tup ds] => P ds
  | _ => False
theorem o_list : CallR X (.type "list") (fun xs H Q => ∃ p ys, xs = [.ref p] ∧ (SqL X.K H p ys ∨ SqT X.K H p ys) ∧ ∀ l, H l = none → Q (.ref l) (upd H l (.lst ys))) ∧ CallF X B (fun xs H Q => ∃ p ys, xs = [.ref p] ∧ (SqL X.K H p ys ∨ SqT X.K H p ys) ∧ ∀ l, H l = none → Q (.ref l) (upd H l (.lst ys))) fList :=
  ⟨call_list_of, fun {Z S Γ σ H fp ofp xs vs Q P} r bv h q => by
  have fin : ∀ {us : List V} {ds : List D}, DVs X.K Z us ds → P ds → ∀ l, H l = none → Q (.ref l) (upd H l (.lst us)) := fun {us ds} hd h l hl => by
    obtain ⟨q1, q2, q3, q4⟩ := r.fresh hl
    exact q _ h Z _ l us (r.grow hl) (r.up0 hl) upd_same hd q3 q1 q2 hl
  unfold fList at h
  split at h
  · cases bv with
    | cons b1 b2 =>
      cases b2
      obtain ⟨p, us, rfl, hs, hd⟩ := b1.list r
      exact ⟨p, us, rfl, .inl hs, fin hd h⟩
  · cases bv with
    | cons b1 b2 =>
      cases b2
      obtain ⟨p, us, rfl, _, hs, hd⟩ := b1.tup r
      exact ⟨p, us, rfl, .inr hs, fin hd h⟩
  · exact h.elim⟩
/-- tuple(xs) -/
def fTuple : List D → (D → Prop) → Prop := fun xs P => match xs with
  | [.lst ds] => P (.tup ds)
  | [.tup ds] => P (.tup ds)
  | _ => False
theorem o_tuple : CallR X (.type "tuple") (fun xs H Q => ∃ p ys, xs = [.ref p] ∧ ((SqL X.K H p ys ∧ ∀ l, H l = none → Q (.ref l) (upd H l (.tup ys))) ∨ (SqT X.K H p ys ∧ Q (.ref p) H))) ∧ CallD X B (fun xs H Q => ∃ p ys, xs = [.ref p] ∧ ((SqL X.K H p ys ∧ ∀ l, H l = none → Q (.ref l) (upd H l (.tup ys))) ∨ (SqT X.K H p ys ∧ Q (.ref p) H))) fTuple :=
  ⟨call_tuple_of, fun {Z S Γ σ H fp ofp xs vs Q P} r bv h q => by
  unfold fTuple at h
  split at h
  · cases bv with
    | cons b1 b2 =>
      cases b2
      obtain ⟨p, us, rfl, hs, hd⟩ := b1.list r
      refine ⟨p, us, rfl, .inl ⟨hs, fun l hl => ?_⟩⟩
      have u := r.upF (o := .tup us) hl
      exact q _ h _ _ _ (r.growF hl) u (.tup (SqT.of (show upd Z.F l (.tup us) l = _ from upd_same)) (hd.up u))
  · cases bv with
    | cons b1 b2 =>
      cases b2
      obtain ⟨p, us, rfl, hf, hs, hd⟩ := b1.tup r
      exact ⟨p, us, rfl, .inr ⟨hs, q _ h Z H _ r (.refl _ _ _) (.tup hf hd)⟩⟩
  · exact h.elim⟩
/-- tuple(reversed(x)) -/
def dTupRev (te : DE) : DE := fun Γ S Q => te Γ S fun x S1 => match x with
  | .lst ds => Q (.tup ds.reverse) S1
  | .tup ds => Q (.tup ds.reverse) S1
  | _ => False
/-- sep.join(xs) -/
def strsOf : List D → Option (List Str)
  | [] => some []
  | .str b :: r => (strsOf r).map (b :: ·)
  | _ => none
theorem strsOf_map : ∀ bs : List Str, strsOf (bs.map D.str) = some bs
  | [] => rfl
  | b :: bs => by
    show (strsOf (bs.map D.str)).map (b :: ·) = _
    rw [strsOf_map bs]
    rfl
theorem strsOf_eq : ∀ {ds : List D} {bs : List Str}, strsOf ds = some bs → ds = bs.map D.str
  | [], bs, h => by
    cases h
    rfl
  | d :: ds, bs, h => by
    cases d with
    | str b =>
      have h' : (strsOf ds).map (b :: ·) = some bs := h
      cases e : strsOf ds with
      | none => rw [e] at h'; cases h'
      | some cs =>
        rw [e] at h'
        cases h'
        rw [strsOf_eq e]
        rfl
    | _ => cases h
/-- a text's method of one argument -/
def dM1 (f : Str → D → (D → Prop) → Prop) (ta te : DE) : DE := fun Γ S Q => ta Γ S fun x S1 => match x with
  | .str z => te Γ S1 fun y S2 => f z y fun r => Q r S2
  | _ => False
def dM1F (f : Str → D → (List D → Prop) → Prop) (ta te : DE) : DA := fun Γ S Q => ta Γ S fun x S1 => match x with
  | .str z => te Γ S1 fun y S2 => f z y fun r => Q r S2
  | _ => False
def fJoin : Str → D → (D → Prop) → Prop := fun a y P => match y with
  | .lst ds => ∃ ys, strsOf ds = some ys ∧ (ys.map (·.length)).sum + ys.length * a.length ≤ 1000000 ∧ P (.str (Txt.join a ys))
  | .tup ds => ∃ ys, strsOf ds = some ys ∧ (ys.map (·.length)).sum + ys.length * a.length ≤ 1000000 ∧ P (.str (Txt.join a ys))
  | _ => False
theorem pd_join {apos : Pos} (ho : PB X B a ta) (he : PB X B e te) (hs : starEach [e] X.env = [(false, eval e X.env)] := by rfl) (hbase : attributeBase a "join" X.env (eval a X.env) = eval a X.env := by rfl) (hline : (apos.endLine == pos.line) = true := by rfl) :
    PD X B (.Call (.Attribute a "join" apos) [e] [] pos) (dM1 fJoin ta te) := PE.weak (pe_join ho he hs hbase hline) fun σ H Q h => by
  obtain ⟨Z, S, Γ, fp, ofp, P, r, h, q⟩ := h
  refine ⟨Z, S, Γ, fp, ofp, _, r, h, fun x S1 h1 Z1 H1 fp1 vx r1 l1 b1 => ?_⟩
  cases x with
  | str z =>
    cases b1.str
    refine ⟨⟨z, rfl⟩, Z1, S1, Γ, fp1, ofp, _, r1, h1, fun y S2 h2 Z2 H2 fp2 vy r2 l2 b2 => ?_⟩
    cases y with
    | lst ds =>
      obtain ⟨ys, e1, hz, h3⟩ := h2
      obtain ⟨p, us, rfl, hs, hd⟩ := b2.list r2
      rw [strsOf_eq e1] at hd
      rw [hd.of_strs] at hs
      exact ⟨z, p, ys, rfl, rfl, .inl hs, Nat.le_trans hz (by decide), q _ S2 h3 Z2 H2 fp2 _ r2 (l1.trans l2) (.str _)⟩
    | tup ds =>
      obtain ⟨ys, e1, hz, h3⟩ := h2
      obtain ⟨p, us, rfl, _, hs, hd⟩ := b2.tup r2
      rw [strsOf_eq e1] at hd
      rw [hd.of_strs] at hs
      exact ⟨z, p, ys, rfl, rfl, .inr hs, Nat.le_trans hz (by decide), q _ S2 h3 Z2 H2 fp2 _ r2 (l1.trans l2) (.str _)⟩
    | _ => exact False.elim h2
  | _ => exact False.elim h1
def fSplit : Str → D → (List D → Prop) → Prop := fun a y P => match y with
  | .str b => (b.length == 0) = false ∧ sz (a.length + 2) ∧ P ((Txt.split a b).map D.str)
  | _ => False
theorem pf_split {apos : Pos} (ho : PB X B a ta) (he : PB X B e te) (hs : starEach [e] X.env = [(false, eval e X.env)] := by rfl) (hbase : attributeBase a "split" X.env (eval a X.env) = eval a X.env := by rfl) (hline : (apos.endLine == pos.line) = true := by rfl) :
    PF X B (.Call (.Attribute a "split" apos) [e] [] pos) (dM1F fSplit ta te) := PE.weak (pe_split ho he hs hbase hline) fun σ H Q h => by
  obtain ⟨Z, S, Γ, fp, ofp, P, r, h, q⟩ := h
  refine ⟨Z, S, Γ, fp, ofp, _, r, h, fun x S1 h1 Z1 H1 fp1 vx r1 l1 b1 => ?_⟩
  cases x with
  | str z =>
    cases b1.str
    refine ⟨⟨z, rfl⟩, Z1, S1, Γ, fp1, ofp, _, r1, h1, fun y S2 h2 Z2 H2 fp2 vy r2 l2 b2 => ?_⟩
    cases y with
    | str y =>
      cases b2.str
      refine ⟨z, y, rfl, rfl, h2.1, h2.2.1.ok, fun p hp => ?_⟩
      obtain ⟨q1, q2, q3, q4⟩ := r2.fresh hp
      exact q _ S2 h2.2.2 Z2 _ fp2 p _ (r2.grow hp) ((l1.trans l2).trans (r2.up0 hp)) upd_same (.strs _) q3 q1 q2 ((l1.trans l2).there _ hp)
    | _ => exact False.elim h2
  | _ => exact False.elim h1
/-! ### the signs of a text, in a row -/
def signsOf (x : Str) : List D := x.cps.toList.map fun c => .str ⟨#[c]⟩
theorem it_str {K : PySem.W.Frag} {Z : Fz} {x : Str} : ItOk K B Z (Its x) (signsOf x) := fun i Z1 S Γ σ H fp ofp r l => by
  refine ⟨fun y e => ?_, fun e => ?_⟩
  · unfold signsOf at e
    rw [List.getElem?_map] at e
    cases q : x.cps.toList[i]? with
    | none => rw [q] at e; cases e
    | some c =>
      rw [q] at e
      cases e
      have hi := (List.getElem?_eq_some_iff.mp q).1
      rw [Array.length_toList] at hi
      refine ⟨hi, fun v H' y => ?_⟩
      obtain ⟨rfl, c', e1, rfl⟩ := y
      rw [← Array.getElem?_toList, q] at e1
      cases e1
      exact ⟨Z1, r, .refl _ _ _, .str _⟩
  · unfold signsOf at e
    have := List.getElem?_eq_none_iff.mp e
    rw [List.length_map, Array.length_toList] at this
    exact this
def dWs (te : DE) : DA := fun Γ S Q => te Γ S fun x S1 => match x with
  | .str z => Q (signsOf z) S1
  | _ => False
theorem pi_dstr {tg : Expr} (he : PD X B e te) : PID X B tg e (dWs te) := PI.weak (pi_str he) fun σ H Rr h => by
  obtain ⟨Z, S, Γ, fp, ofp, P, r, h, q⟩ := h
  refine ⟨Z, S, Γ, fp, ofp, _, r, h, fun d S1 p1 Z1 H1 fp1 v1 r1 l1 dv1 => ?_⟩
  cases dv1 with
  | str z => exact ⟨_, rfl, q _ S1 p1 Z1 H1 fp1 r1 l1 _ it_str⟩
  | _ => exact False.elim p1
/-! ### list + list -/
def rCatL (K : PySem.W.Frag) : R2 := fun x y H Q => ∃ l b xs zs, x = .ref l ∧ y = .ref b ∧ SqL K H l xs ∧ SqL K H b zs ∧ xs.length + zs.length ≤ sizeLine ∧ ∀ p, H p = none → Q (.ref p) (upd H p (.lst (xs ++ zs)))
theorem op_catL : OpR X (binaryOp .Add) (rCatL X.K) := by
  intro pins s σ H x y v u Q I rx ry h
  obtain ⟨l, b, xs, zs, rfl, rfl, hH, hB, hz, q⟩ := h
  cases rx
  cases ry
  obtain ⟨its, r, h1, _⟩ := I.list hH
  obtain ⟨its2, r2, g1, _⟩ := I.list hB
  obtain ⟨⟨cls, dd, data, sl⟩, n, ho, hc, hd0, hd⟩ := h1
  obtain ⟨⟨cls2, dd2, data2, sl2⟩, n2, ho2, hc2, hd02, hd2⟩ := g1
  simp only at hc hd hc2 hd2
  subst hc hd hc2 hd2
  have e : its.toArray ++ its2.toArray = (its ++ its2).toArray := by simp
  have hz2 : its.length + its2.length ≤ sizeLine := by rw [← r.length, ← r2.length]; exact hz
  refine concat_meets ⟨_, ho, rfl⟩ ⟨_, ho2, rfl⟩ noFill_list_add seq_list_add PySem.F.slot_list_add PySem.F.entry_list_add (PySem.F.args_list_add_2 _ _) (list_addW l b its.toArray its2.toArray n n2 dd dd2 sl sl2 (by simpa using hz2)) ⟨ho, ho2, ?_⟩
  rw [e]
  exact ⟨.ref _, _, I.lnew (t' := s.toks) (r.append r2) (by rw [List.length_append]; exact hz), rfl, q _ I.fresh⟩
def fCat : D → D → (List D → Prop) → Prop := fun x y P => match x, y with
  | .lst a, .lst b => sz (a.length + b.length) ∧ P (a ++ b)
  | _, _ => False
theorem o_cat : OpR X (binaryOp .Add) (rCatL X.K) ∧ OpF X B (rCatL X.K) fCat := ⟨op_catL, fun {Z S Γ σ H fp ofp x y vx vy Q P} r bx by_ h q => by
  cases x with
  | lst i =>
    cases y with
    | lst j =>
      obtain ⟨a, xs, rfl, s1, d1⟩ := bx.list r
      obtain ⟨b, ys, rfl, s2, d2⟩ := by_.list r
      refine ⟨a, b, xs, ys, rfl, rfl, s1, s2, by rw [d1.length, d2.length]; exact h.1.ok, fun l hl => ?_⟩
      obtain ⟨q1, q2, q3, q4⟩ := r.fresh hl
      exact q _ h.2 Z _ l _ (r.grow hl) (r.up0 hl) upd_same (d1.append d2) q3 q1 q2 hl
    | _ => exact False.elim h
  | _ => exact False.elim h⟩
end
end DL
namespace DL
open PySem PySem.Spec PyProof.Rows L2
/-! ### cells -/
section
variable {K : PySem.W.Frag} {B : Bs} {Z Z' : Fz} {S : Sto} {Γ : Gm} {σ : L2.St} {H H' : Hp} {fp ofp : List Addr}
/-- a cell's own object is another (its other parts as they were) -/
theorem R.put (r : R K B Z S Γ σ H fp ofp) {n : Nat} {o o' : O} {ho : HO} (e : cellAt S n = some o) (h : ∀ as, OR K Z H (Z.ρ n) o as → (∃ bs, as = Z.ρ n :: bs) ∧ ∀ H', H' (Z.ρ n) = some ho → (∀ a u, a ≠ Z.ρ n → H a = some u → H' a = some u) → as.Nodup → OR K Z H' (Z.ρ n) o' as) :
    R K B Z (S.set n o') Γ σ (upd H (Z.ρ n) ho) fp ofp := by
  obtain ⟨l, as, rr, e1, h1, k⟩ := r.st.get e
  simp only [Nat.zero_add] at h1 k
  obtain ⟨⟨bs, eas⟩, k2⟩ := h as h1
  have nd := List.nodup_append.mp r.nd
  have ndf := nd.1
  rw [e1] at ndf
  have ndl := List.nodup_append.mp ndf
  have ndl2 := List.nodup_append.mp ndl.1
  have ma : Z.ρ n ∈ as := by rw [eas]; exact List.mem_cons_self
  have mf : Z.ρ n ∈ fp := by rw [e1]; exact List.mem_append_left _ (List.mem_append_right _ ma)
  have na : ∀ b u, b ≠ Z.ρ n → H b = some u → upd H (Z.ρ n) ho b = some u := fun b u q e => by
    rw [upd_ne q]
    exact e
  have hl : ∀ a ∈ l, a ≠ Z.ρ n := fun a m z => ndl2.2.2 a m _ ma z
  have hr : ∀ a ∈ rr, a ≠ Z.ρ n := fun a m z => ndl.2.2 _ (List.mem_append_right _ ma) a m z.symm
  have fF : Z.F (Z.ρ n) = none := r.nf _ (List.mem_append_left _ mf)
  have h2 := k Z (upd H (Z.ρ n) ho) o' as (.refl _) (by have := r.kk; omega) (fun a m u e => na a u (hl a m) e) (fun a m u e => na a u (hr a m) e) (k2 _ upd_same na ndl2.2.1)
  rw [← e1] at h2
  refine ⟨by rw [List.length_set]; exact r.kk, fun b u e => na b u (fun z => by rw [z, fF] at e; cases e) (r.fr b u e), h2, r.gm.mono (.refl _) fun a m u e => na a u (fun z => nd.2.2 _ mf a m z.symm) e, r.nd, r.nf,
    ⟨r.ext.le, r.ext.fl, fun b u e q => na b u (fun z => ?_) (r.ext.keep b u e q), fun b e => ?_, r.ext.new, r.ext.frz⟩, r.of⟩
  · subst z
    rcases r.ext.new _ (List.mem_append_left _ mf) with z | z
    · exact q z
    · rw [z] at e
      cases e
  · by_cases z : b = Z.ρ n
    · rw [z, upd_same] at e
      cases e
    · rw [upd_ne z] at e
      exact r.ext.there b e
theorem Up.put {n : Nat} {ho : HO} (m : Z.ρ n ∈ fp) (h : ∃ o, H (Z.ρ n) = some o) : Up Z H fp Z (upd H (Z.ρ n) ho) fp := ⟨.refl _, fun a u e q => by
  rw [upd_ne fun z => q (by rw [z]; exact m)]
  exact e, fun _ m => .inl m, fun a e => by
  by_cases z : a = Z.ρ n
  · rw [z, upd_same] at e
    cases e
  · rw [upd_ne z] at e
    exact e, fun _ h n => absurd h n⟩
theorem SR.snoc : ∀ {i : Nat} {S : Sto} {fp : List Addr} {o : O} {as : List Addr}, SR K Z H i S fp → OR K Z H (Z.ρ (i + S.length)) o as → SR K Z H i (S ++ [o]) (fp ++ as)
  | i, [], _, _, as, h, h2 => by
    cases h
    have := SR.cons h2 (.nil (i := i + 1))
    rw [List.append_nil] at this
    exact this
  | i, o :: S, _, _, as, h, h2 => by
    cases h with
    | cons h1 h3 =>
      have e : i + (o :: S).length = i + 1 + S.length := by rw [List.length_cons]; omega
      rw [e] at h2
      have := SR.cons h1 (SR.snoc h3 h2)
      rw [← List.append_assoc] at this
      exact this
def Fz.more (Z : Fz) (p : Addr) : Fz := ⟨Z.F, fun n => if n = Z.k then p else Z.ρ n, Z.k + 1⟩
theorem le_more {p : Addr} : Z.le (Z.more p) := ⟨fun _ _ h => h, Nat.le_succ _, fun n h => if_neg (Nat.ne_of_lt h)⟩
/-- a new cell -/
theorem R.box (r : R K B Z S Γ σ H fp ofp) {p : Addr} {ho : HO} {o : O} (h : H p = none) (k : ∀ Z' H', Z.le Z' → H' p = some ho → OR K Z' H' p o [p]) : R K B (Z.more p) (S ++ [o]) Γ σ (upd H p ho) (fp ++ [p]) ofp := by
  obtain ⟨q1, q2, q3, q4⟩ := r.fresh h
  have le := le_more (Z := Z) (p := p)
  have g := r.grow (o := ho) h
  have nd := List.nodup_append.mp r.nd
  refine ⟨?_, g.fr, ?_, g.gm.mono le fun _ _ _ e => e, ?_, fun a m => ?_, ⟨g.ext.le.trans le, g.ext.fl.trans le, g.ext.keep, g.ext.there, fun a m => ?_, g.ext.frz⟩, r.of⟩
  · show Z.k + 1 = (S ++ [o]).length
    rw [List.length_append, r.kk]
    rfl
  · refine SR.snoc (g.st.mono le (by have := r.kk; omega) fun _ _ _ e => e) ?_
    have e : (Z.more p).ρ (0 + S.length) = p := by
      show (if 0 + S.length = Z.k then p else Z.ρ (0 + S.length)) = p
      rw [if_pos (by rw [r.kk]; omega)]
    rw [e]
    exact k _ _ le upd_same
  · have e : fp ++ [p] ++ ofp = fp ++ p :: ofp := by simp [List.append_assoc]
    rw [e]
    exact (List.perm_middle.nodup_iff).mpr (List.nodup_cons.mpr ⟨fun z => (List.mem_append.mp z).elim q1 q2, r.nd⟩)
  · simp only [List.mem_append, List.mem_singleton] at m
    rcases m with (m | m) | m
    · exact r.nf a (List.mem_append_left _ m)
    · rw [m]; exact q3
    · exact r.nf a (List.mem_append_right _ m)
  · simp only [List.mem_append, List.mem_singleton] at m
    rcases m with (m | m) | m
    · exact r.ext.new a (List.mem_append_left _ m)
    · rw [m]; exact .inr q4
    · exact r.ext.new a (List.mem_append_right _ m)
theorem Up.box {p : Addr} {ho : HO} (h : H p = none) : Up Z H fp (Z.more p) (upd H p ho) (fp ++ [p]) := ⟨le_more, fun a u e _ => by
  rw [upd_ne (ne_of_none e h)]
  exact e, fun a m => by
  rcases List.mem_append.mp m with m | m
  · exact .inl m
  · rw [List.mem_singleton.mp m]
    exact .inr h, fun a e => by
  by_cases z : a = p
  · rw [z]
    exact h
  · rw [upd_ne z] at e
    exact e, fun _ h n => absurd h n⟩
/-! ### a dict of written keys -/
def itemAt : List D → Nat → Option D
  | [], _ => none
  | x :: _, 0 => some x
  | _ :: r, i + 1 => itemAt r i
theorem KvR.val : ∀ {nm : List Str} {kvs : List (Key × V)} {ds : List D} {j : Nat} {f : Str} {d : D}, KvR K Z nm kvs ds → nm.Nodup → nm[j]? = some f → itemAt ds j = some d → ∃ v, valV kvs (Sum.inr f : Key) = some v ∧ DV K Z v d
  | _, _, _, _, _, _, .nil, _, _, e => by cases e
  | _, _, _, 0, f, d, .cons h q, _, e1, e2 => by
    cases e1
    cases e2
    exact ⟨_, valV_pos rfl, h⟩
  | k :: nm, _, _, j + 1, f, d, .cons h q, n, e1, e2 => by
    obtain ⟨v, h1, h2⟩ := KvR.val (j := j) q (List.nodup_cons.mp n).2 (by simpa using e1) e2
    refine ⟨v, ?_, h2⟩
    rw [valV_neg]
    · exact h1
    · intro z
      have z' : k = f := Sum.inr.inj z
      subst z'
      exact (List.nodup_cons.mp n).1 (List.mem_of_getElem? (show nm[j]? = some k by simpa using e1))
theorem KvR.len : ∀ {nm : List Str} {kvs : List (Key × V)} {ds : List D}, KvR K Z nm kvs ds → kvs.length = nm.length
  | _, _, _, .nil => rfl
  | _, _, _, .cons _ q => by rw [List.length_cons, List.length_cons, KvR.len q]
theorem KvR.any : ∀ {nm : List Str} {kvs : List (Key × V)} {ds : List D} {f : Str}, KvR K Z nm kvs ds → f ∈ nm → (kvs.any fun kv => decide (kv.1 = (Sum.inr f : Key))) = true
  | _, _, _, _, .nil, m => by cases m
  | _, _, _, _, .cons _ q, m => by
    rw [List.any_cons, Bool.or_eq_true]
    rcases List.mem_cons.mp m with e | m
    · subst e
      exact .inl (decide_eq_true rfl)
    · exact .inr (KvR.any q m)
theorem KvR.mapPut : ∀ {nm : List Str} {kvs : List (Key × V)} {ds : List D} {j : Nat} {f : Str} {v : V} {d : D}, KvR K Z nm kvs ds → nm.Nodup → nm[j]? = some f → DV K Z v d →
    KvR K Z nm (kvs.map fun kv => if kv.1 = (Sum.inr f : Key) then (kv.1, v) else kv) (ds.set j d)
  | _, _, _, _, _, _, _, .nil, _, e, _ => by simp at e
  | k :: nm, _, _, 0, f, v, d, .cons (r := r) h q, n, e, dv => by
    cases e
    rw [List.map_cons, if_pos rfl]
    have hn : ∀ {nm' : List Str} {kvs : List (Key × V)} {ds : List D}, KvR K Z nm' kvs ds → k ∉ nm' → (kvs.map fun kv => if kv.1 = (Sum.inr k : Key) then (kv.1, v) else kv) = kvs := by
      intro nm' kvs ds q
      induction q with
      | nil => intro _; rfl
      | cons h q ih =>
        intro hk
        rw [List.map_cons, ih fun z => hk (List.mem_cons_of_mem _ z), if_neg]
        intro z
        exact hk (by rw [← Sum.inr.inj z]; exact List.mem_cons_self)
    rw [hn q (List.nodup_cons.mp n).1]
    exact .cons dv q
  | k :: nm, _, _, j + 1, f, v, d, .cons h q, n, e, dv => by
    have e' : nm[j]? = some f := by simpa using e
    rw [List.map_cons, if_neg]
    · exact .cons h (KvR.mapPut q (List.nodup_cons.mp n).2 e' dv)
    · intro z
      have z' : k = f := Sum.inr.inj z
      subst z'
      exact (List.nodup_cons.mp n).1 (List.mem_of_getElem? e')
theorem KvR.put {nm : List Str} {kvs : List (Key × V)} {ds : List D} {j : Nat} {f : Str} {v : V} {d : D} (q : KvR K Z nm kvs ds) (n : nm.Nodup) (e : nm[j]? = some f) (dv : DV K Z v d) : KvR K Z nm (putK kvs (Sum.inr f : Key) v) (ds.set j d) := by
  unfold putK
  rw [if_pos (q.any (List.mem_of_getElem? e))]
  exact q.mapPut n e dv
end
section
variable {X : Cx} {B : Bs} {a b e o i value : Expr} {ta tb te to' ti tv : DE} {pos pos' : Pos}
/-- o["f"], o a dict of written keys -/
def dRecGet (nm : List Str) (j : Nat) (to : DE) : DE := fun Γ S Q => to Γ S fun x S1 => match x with
  | .ref n => ∃ ds, cellAt S1 n = some (.dct nm ds) ∧ ∃ d, itemAt ds j = some d ∧ Q d S1
  | _ => False
theorem pd_recget {nm : List Str} {f : Str} {kp} {kj} (hu : X.A.units + 1 < cLine) (nd : nm.Nodup) (j : Nat) (hj : nm[j]? = some f) (ho : PD X B o to') : PD X B (.Subscript o (.Constant (.str f) kj kp) pos) (dRecGet nm j to') :=
  PE.weak (pe_dget hu ho pe_str (fun _ _ => rfl)) fun σ H Q h => by
  obtain ⟨Z, S, Γ, fp, ofp, P, r, h, q⟩ := h
  refine ⟨Z, S, Γ, fp, ofp, _, r, h, fun x S1 h1 Z1 H1 fp1 vx r1 l1 b1 => ?_⟩
  cases x with
  | ref n =>
    obtain ⟨ds, e1, d, e2, h2⟩ := h1
    cases b1
    obtain ⟨as, c, _⟩ := r1.cell e1
    cases c with
    | dct k1 k2 =>
      obtain ⟨v, g1, g2⟩ := k2.val nd hj e2
      refine ⟨_, v, rfl, ?_, q _ S1 h2 Z1 H1 fp1 v r1 l1 g2⟩
      have g := DGet.k (k := Sum.inr f) k1
      rw [g1] at g
      exact g
  | _ => exact False.elim h1
/-- o["f"] = v -/
def dRecSet (nm : List Str) (j : Nat) (to te : DE) : DS := fun DD Γ S => te Γ S fun y S1 => to Γ S1 fun x S2 => match x with
  | .ref n => ∃ ds, cellAt S2 n = some (.dct nm ds) ∧ DD.nx Γ (S2.set n (.dct nm (ds.set j y)))
  | _ => False
theorem ps_recset {nm : List Str} {f : Str} {kp} {kj} (hu : X.A.units + 1 < cLine) (nd : nm.Nodup) (hlen : nm.length ≤ 20) (j : Nat) (hj : nm[j]? = some f) (ho : PD X B o to') (hv : PD X B value tv) (hs : swapsWith value (some (.Subscript o (.Constant (.str f) kj kp) pos')) pos.line X.env = pure false := by rfl) :
    PSD X B (.Assign [.Subscript o (.Constant (.str f) kj kp) pos'] value pos) (dRecSet nm j to' tv) := PS.weak (ps_dput hu ho pe_str hv hs) fun Dn σ H h => by
  obtain ⟨Z, S, Γ, fp, ofp, DD, r, h, ok⟩ := h
  refine ⟨Z, S, Γ, fp, ofp, _, r, h, fun y S1 h1 Z1 H1 fp1 vy r1 l1 b1 => ?_⟩
  refine ⟨Z1, S1, Γ, fp1, ofp, _, r1, h1, fun x S2 h2 Z2 H2 fp2 vx r2 l2 b2 => ?_⟩
  cases x with
  | ref n =>
    obtain ⟨ds, e1, h3⟩ := h2
    cases b2
    obtain ⟨as, c, _⟩ := r2.cell e1
    cases c with
    | dct k1 k2 =>
      refine ⟨_, _, rfl, DPut.k (k := Sum.inr f) k1 (by rw [k2.len]; exact Nat.lt_of_le_of_lt hlen (by decide)), ?_⟩
      refine ok.nx _ _ _ _ _ _ _ (r2.put e1 fun as c => ?_) h3
      cases c with
      | dct k1' k2' =>
        rw [k1] at k1'
        cases k1'
        exact ⟨⟨[], rfl⟩, fun H' g _ _ => .dct g (k2.put nd hj (b1.up l2))⟩
  | _ => exact False.elim h2
end
end DL
namespace DL
open PySem PySem.Spec PyProof.Rows L2
section
variable {K : PySem.W.Frag} {B : Bs} {Z Z' : Fz} {S : Sto} {Γ : Gm} {σ : L2.St} {H H' : Hp} {fp ofp : List Addr}
theorem R.boxG (r : R K B Z S Γ σ H fp ofp) {p : Addr} {ho : HO} {o : O} (q1 : p ∉ fp) (q2 : p ∉ ofp) (q3 : Z.F p = none) (q4 : B.H p = none) (k : ∀ Z' H', Z.le Z' → H' p = some ho → OR K Z' H' p o [p]) : R K B (Z.more p) (S ++ [o]) Γ σ (upd H p ho) (fp ++ [p]) ofp := by
  have le := le_more (Z := Z) (p := p)
  have g := r.other (o := ho) q1 q2 q3 q4
  have nd := List.nodup_append.mp r.nd
  refine ⟨?_, g.fr, ?_, g.gm.mono le fun _ _ _ e => e, ?_, fun a m => ?_, ⟨g.ext.le.trans le, g.ext.fl.trans le, g.ext.keep, g.ext.there, fun a m => ?_, g.ext.frz⟩, r.of⟩
  · show Z.k + 1 = (S ++ [o]).length
    rw [List.length_append, r.kk]
    rfl
  · refine SR.snoc (g.st.mono le (by have := r.kk; omega) fun _ _ _ e => e) ?_
    have e : (Z.more p).ρ (0 + S.length) = p := by
      show (if 0 + S.length = Z.k then p else Z.ρ (0 + S.length)) = p
      rw [if_pos (by rw [r.kk]; omega)]
    rw [e]
    exact k _ _ le upd_same
  · have e : fp ++ [p] ++ ofp = fp ++ p :: ofp := by simp [List.append_assoc]
    rw [e]
    exact (List.perm_middle.nodup_iff).mpr (List.nodup_cons.mpr ⟨fun z => (List.mem_append.mp z).elim q1 q2, r.nd⟩)
  · simp only [List.mem_append, List.mem_singleton] at m
    rcases m with (m | m) | m
    · exact r.nf a (List.mem_append_left _ m)
    · rw [m]; exact q3
    · exact r.nf a (List.mem_append_right _ m)
  · simp only [List.mem_append, List.mem_singleton] at m
    rcases m with (m | m) | m
    · exact r.ext.new a (List.mem_append_left _ m)
    · rw [m]; exact .inr q4
    · exact r.ext.new a (List.mem_append_right _ m)
end
section
variable {X : Cx} {B : Bs} {a b e : Expr} {te : DE} {pos : Pos}
/-! ### {"a": .., "b": ..} -/
def dPs : List (Str × DE) → DA
  | [], _, S, Q => Q [] S
  | (_, te) :: r, Γ, S, Q => te Γ S fun x S1 => dPs r Γ S1 fun xs S2 => Q (x :: xs) S2
def liftPs (K : PySem.W.Frag) (B : Bs) (kes : List (Str × DE)) : List (TE × TE) := kes.map fun p => (tC (.str p.1), liftD K B p.2)
abbrev PPsD (X : Cx) (B : Bs) (pos : Pos) (keys : List (Option Expr)) (values : List Expr) (kes : List (Str × DE)) : Prop := PPs X pos keys values (liftPs X.K B kes)
theorem pps_dnil : PPsD X B pos [] [] [] := pps_nil
theorem pps_dcons {k : Str} {kj kp} {ks : List (Option Expr)} {vs : List Expr} {kes : List (Str × DE)} (hv : PD X B e te) (hr : PPsD X B pos ks vs kes) : PPsD X B pos (some (.Constant (.str k) kj kp) :: ks) (e :: vs) ((k, te) :: kes) := pps_cons pe_str hv hr
theorem pairs_run {K : PySem.W.Frag} : ∀ (kes : List (Str × DE)) {σ : L2.St} {H : Hp} {Q : List (V × V) → Hp → Prop} {Z : Fz} {S : Sto} {Γ : Gm} {fp ofp : List Addr} {P : List D → Sto → Prop}, R K B Z S Γ σ H fp ofp → dPs kes Γ S P →
    (∀ ds S', P ds S' → ∀ Z' H' fp' vs, R K B Z' S' Γ σ H' fp' ofp → Up Z H fp Z' H' fp' → DVs K Z' vs ds → vs.length = kes.length → Q ((kes.map fun p => V.str p.1).zip vs) H') → tPairs (liftPs K B kes) σ H Q
  | [], σ, H, Q, Z, S, Γ, fp, ofp, P, r, h, q => q [] S h Z H fp [] r (.refl _ _ _) .nil rfl
  | (k, te) :: kes, σ, H, Q, Z, S, Γ, fp, ofp, P, r, h, q => by
    refine ⟨Z, S, Γ, fp, ofp, _, r, h, fun x S1 h1 Z1 H1 fp1 vx r1 l1 b1 => ?_⟩
    refine pairs_run kes r1 h1 fun ds S2 p2 Z2 H2 fp2 vs r2 l2 d2 hl => ?_
    exact q _ S2 p2 Z2 H2 fp2 (vx :: vs) r2 (l1.trans l2) (.cons (b1.up l2) d2) (by rw [List.length_cons, List.length_cons, hl])
def dDisp (kes : List (Str × DE)) : DE := fun Γ S Q => dPs kes Γ S fun ds S1 => Q (.ref S1.length) (S1 ++ [.dct (kes.map (·.1)) ds])
theorem merge_new : ∀ (nm : List Str) (vs : List V) (acc : List (Key × V)), nm.Nodup → (∀ f ∈ nm, ∀ p ∈ acc, p.1 ≠ (Sum.inr f : Key)) → vs.length = nm.length → mergeK acc ((nm.map fun f => (Sum.inr f : Key)).zip vs) = acc ++ (nm.map fun f => (Sum.inr f : Key)).zip vs
  | [], vs, acc, _, _, hl => by
    show acc = acc ++ []
    rw [List.append_nil]
  | f :: nm, [], acc, _, _, hl => by simp at hl
  | f :: nm, v :: vs, acc, n, hn, hl => by
    have nn := List.nodup_cons.mp n
    have e1 : putK acc (Sum.inr f : Key) v = acc ++ [(Sum.inr f, v)] := by
      unfold putK
      rw [if_neg]
      intro z
      obtain ⟨p, hp, e⟩ := List.any_eq_true.mp z
      exact hn f List.mem_cons_self p hp (of_decide_eq_true e)
    show mergeK (putK acc (Sum.inr f : Key) v) ((nm.map fun f => (Sum.inr f : Key)).zip vs) = _
    rw [e1, merge_new nm vs _ nn.2 (fun g hg p hp => ?_) (by simpa using hl)]
    · show acc ++ [(Sum.inr f, v)] ++ _ = acc ++ (Sum.inr f, v) :: _
      simp [List.append_assoc]
      rfl
    · rcases List.mem_append.mp hp with hp | hp
      · exact hn g (List.mem_cons_of_mem _ hg) p hp
      · rw [List.mem_singleton.mp hp]
        intro z
        exact nn.1 (by rw [Sum.inr.inj z]; exact hg)
theorem kvr_zip {K : PySem.W.Frag} {Z : Fz} : ∀ {nm : List Str} {vs : List V} {ds : List D}, DVs K Z vs ds → vs.length = nm.length → KvR K Z nm ((nm.map fun f => (Sum.inr f : Key)).zip vs) ds
  | [], _, _, .nil, _ => .nil
  | [], _, _, .cons _ _, h => by simp at h
  | f :: nm, _, _, .nil, h => by simp at h
  | f :: nm, _, _, .cons h1 h2, h => .cons h1 (kvr_zip h2 (by simpa using h))
theorem pd_disp {keys : List (Option Expr)} {values : List Expr} {kes : List (Str × DE)} (h : PPsD X B pos keys values kes) (nd : (kes.map (·.1)).Nodup) (h15 : kes.length ≤ 15) (hall : keys.all (·.isSome) = true := by rfl) (hl : keys.length = values.length := by rfl) (h0 : keys ≠ [] := by exact (fun z => nomatch z))
    (h15' : keys.length ≤ 15 := by decide) : PD X B (.Dict keys values pos) (dDisp kes) := PE.weak (pe_disp h hall hl h0 h15') fun σ H Q h => by
  obtain ⟨Z, S, Γ, fp, ofp, P, r, h, q⟩ := h
  intro p hp
  obtain ⟨q1, q2, q3, q4⟩ := r.fresh hp
  have r0 := r.grow (o := .dK []) hp
  have u0 : Up Z H fp Z (upd H p (.dK [])) fp := r.up0 hp
  refine pairs_run kes r0 h fun ds S2 p2 Z2 H2 fp2 vs r2 l2 d2 hlen => ?_
  have e2 : H2 p = some (.dK []) := l2.keep p _ upd_same q1
  have n1 : p ∉ fp2 := fun m => by
    rcases l2.new p m with z | z
    · exact q1 z
    · rw [upd_same] at z
      cases z
  have n3 : Z2.F p = none := by
    cases e : Z2.F p with
    | none => rfl
    | some o =>
      rcases l2.frz p q3 (by rw [e]; simp) with z | z
      · rw [upd_same] at z
        cases z
      · exact absurd z q1
  have hl2 : vs.length = (kes.map (·.1)).length := by rw [hlen, List.length_map]
  refine ⟨e2, ((kes.map (·.1)).map fun f => (Sum.inr f : Key)).zip vs, ?_, ?_, ?_⟩
  · have gen : ∀ (nm : List Str) (vs : List V), ((nm.map fun f => (Sum.inr f : Key)).zip vs).map (fun kv => (kV kv.1, kv.2)) = (nm.map V.str).zip vs := by
      intro nm
      induction nm with
      | nil => intro vs; rfl
      | cons f nm ih =>
        intro vs
        cases vs with
        | nil => rfl
        | cons v vs =>
          show (V.str f, v) :: ((nm.map fun f => (Sum.inr f : Key)).zip vs).map (fun kv => (kV kv.1, kv.2)) = (V.str f, v) :: (nm.map V.str).zip vs
          rw [ih vs]
    rw [gen, List.map_map]
    rfl
  · rw [List.length_zip, List.length_map, List.length_map]
    omega
  · rw [merge_new _ _ [] nd (fun _ _ _ m => by cases m) hl2, List.nil_append]
    have rb := r2.boxG (o := .dct (kes.map (·.1)) ds) (ho := .dK (((kes.map (·.1)).map fun f => (Sum.inr f : Key)).zip vs)) n1 q2 n3 q4 fun Z' H' le e => .dct e (kvr_zip (d2.mono le) hl2)
    have e3 : V.ref p = V.ref ((Z2.more p).ρ S2.length) := by
      show _ = V.ref (if S2.length = Z2.k then p else _)
      rw [if_pos r2.kk.symm]
    rw [e3]
    refine q _ _ p2 _ _ _ _ rb ?_ (by rw [← e3, e3]; exact .ref (by show S2.length < Z2.k + 1; rw [r2.kk]; exact Nat.lt_succ_self _))
    have ut := u0.trans l2
    refine ⟨ut.le.trans le_more, fun a o e n => ?_, fun a m => ?_, fun a e => ?_, ut.frz⟩
    · rw [upd_ne (ne_of_none e hp)]
      exact ut.keep a o e n
    · rcases List.mem_append.mp m with m | m
      · exact ut.new a m
      · rw [List.mem_singleton.mp m]
        exact .inr hp
    · by_cases z : a = p
      · rw [z]
        exact hp
      · rw [upd_ne z] at e
        exact ut.there a e
end
/-! ### try: body, except x as n: suite; the exception is known behind -/
section
open HandSPX
variable {X : Cx} {pins : List (Addr × Obj)} {σ : L2.St} {H : Hp} {s sI : Shared}
/-- an object that wasn't there is tracked from now on -/
theorem inv_track {a : Addr} {φ : Heap → Prop} (I : Inv X pins σ H s) (JI : Inv X pins σ H sI) (h0 : sI.heap.get? a = none) (na : H a = none) (nL : a ≠ X.env.locals) (hx : ∃ o vs, s.heap.get? a = some o ∧ o.data = .fields vs) (ok : ObjOk X.prog X.w (upd H a (.ext φ)) s.heap a (.ext φ)) (hex : X.ex = []) :
    Inv X pins σ (upd H a (.ext φ)) s := by
  have ne0 : ∀ b o, X.s_0.heap.get? b = some o → b ≠ a := fun b o e z => by
    obtain ⟨o', e'⟩ := JI.base.there b o e (by rw [hex]; simp)
    rw [z, h0] at e'
    cases e'
  have neH : ∀ b u, H b = some u → b ≠ a := fun b u e z => by rw [z, na] at e; cases e
  refine ⟨I.ok, I.os, I.bare, ⟨I.base.keep, I.base.slot, fun b o e n hx => ?_, I.base.there, fun b xs e => ?_, fun b o u e => ?_, fun b ps e => ?_⟩, I.loc, I.cell, ?_, fun x c e => ?_, fun p hp => ?_, fun b u e => ?_, I.len⟩
  · rw [upd_ne (ne0 b o e)]
    exact I.base.free b o e n hx
  · have q := I.base.tups b xs e
    rw [upd_ne (neH b _ q)]
    exact q
  · have q := I.base.frzs b o u e
    rw [upd_ne (neH b _ q)]
    exact q
  · obtain ⟨m, q⟩ := I.base.tbls b ps e
    exact ⟨m, by rw [upd_ne (neH b _ q)]; exact q⟩
  · rw [upd_ne (Ne.symm nL)]
    exact I.free
  · have hc : c ≠ a := fun z => by
      obtain ⟨v, o, e1, e2⟩ := JI.cell x c e
      rw [z, h0] at e1
      cases e1
    rw [upd_ne hc]
    exact I.freeC x c e
  · obtain ⟨e, n, ne, nf, d⟩ := I.pin p hp
    have hp1 : p.1 ≠ a := fun z => by
      obtain ⟨e', _⟩ := JI.pin p hp
      rw [z, h0] at e'
      cases e'
    exact ⟨e, by rw [upd_ne hp1]; exact n, ne, nf, d⟩
  · by_cases hb : b = a
    · subst hb
      rw [upd_same] at e
      cases e
      exact ok
    · rw [upd_ne hb] at e
      exact (I.hok b u e).stay (fun c v _ q => q) (fun c q => by rw [upd_ne (neH c _ q)]; exact q) fun c xs q => by rw [upd_ne (neH c _ q)]; exact q
theorem inv_suiteT {a : Addr} (I : Inv X pins σ H s) : Inv (X.suite a (X.pn ++ pins)) [] σ H s :=
  ⟨I.ok.suite _ _, I.os, I.bare, I.base, I.loc, I.cell, I.free, I.freeC, fun p hp => I.pin p (by rw [List.append_nil] at hp; exact hp), I.hok, I.len⟩
theorem inv_unsuiteT {a : Addr} {pn' : List (Addr × Obj)} (I : Inv (X.suite a (X.pn ++ pins)) pn' σ H s) (ok : X.Ok) : Inv X pins σ H s :=
  ⟨ok, I.os, I.bare, I.base, I.loc, I.cell, I.free, I.freeC, fun p hp => I.pin p (List.mem_append_left _ hp), I.hok, I.len⟩
/-- what the clause wishes: the exception's object is tracked in the suite and behind -/
def wTrk (K : PySem.W.Frag) (c : Value) (i : Nat) (ts : TS) (Wout : WX) (D : Ends) : WX := fun cls d σ H =>
  ∃ b, PySem.W.exmOne K cls c = some b ∧ (b = true → d = none ∧ ∀ a, H a = none → ts { nx := fun σ' H' => D.nx (σ'.set i none) H', rt := D.rt, bk := fun σ' H' => D.bk (σ'.set i none) H', ct := fun σ' H' => D.ct (σ'.set i none) H' } (σ.set i (some (.ref a))) (upd H a (ExH cls a))) ∧
    (b = false → Wout cls d σ H)
variable {x n : Str} {c : Value} {i : Nat} {body suite : List Stmt} {b₀ : Stmt} {np pos pos' : Pos} {tb : WX → TS} {ts : TS} {Wout : WX}
theorem ps_try_asT (hs : X.stack = X.env :: X.outer) (hf : X.env.frame = some X.env.locals) (hex : X.ex = []) (hN : X.N.Nodup) (hi : X.N[i]? = some n) (hln : X.env.kindOf n = some .local) (hc : Names X x c) (tk : Takes X Wout)
    (hb : ∀ (W : WX) (pn : List (Addr × Obj)) (xe : Value → Shared → Prop), Takes (X.tr pn xe) W → PassesOwn (model X.prog X.w) X.A X.env xe → PSs (X.tr pn xe) body (tb W))
    (hsu : ∀ (a : Addr) (pn : List (Addr × Obj)), PSs (X.suite a pn) (b₀ :: suite) ts) :
    PS X (.Try body [.ExceptHandler (some (.Name x np)) (some n) (b₀ :: suite) pos'] [] [] pos) (fun D σ H => tb (wTrk X.K c i ts Wout D) D σ H) := by
  refine ⟨fun pins s σ H D I h => ?_⟩
  have ok := I.ok
  have hfr : X.A.frames = some (X.env :: X.outer) := by rw [ok.frames, hs]
  have hloc : Loc X.env.scope n := .inl hln
  refine wpAny_Try_except ?_
  refine wpAny_mono ((hb (wTrk X.K c i ts Wout D) (X.pn ++ pins) (fun e s₁ => wpAny (model X.prog X.w) X.A (noteFrame e X.env) (fun _ s₂ => wpAny (model X.prog X.w) X.A (setFlight e none) (fun _ s₃ =>
    wpAny (model X.prog X.w) X.A (handleBy e X.env [.ExceptHandler (some (.Name x np)) (some n) (b₀ :: suite) pos']) (SP X pins D) X.xe s₃) X.xe s₂) X.xe s₁) (fun u s' xx => ?_) PassesOwn.looking).run [] s σ H D (I.toTry _) h) (fun f s1 hsp => ?_) (fun e s1 he => he)
  · obtain ⟨a, B, sI, pins', σ', H', cls, d, rfl, J', nb, up, sky, na, os, ag, b, hb1, hyes, hno⟩ := xx
    have J : Inv X pins σ' H' sI := J'.ofTry ok
    have sky' : Sky B (X.env :: X.outer) a (Zc cls d) X.env.locals s'.heap := by rw [← hs]; exact sky
    show wpAny (model X.prog X.w) X.A (noteFrame (.ref a) X.env) _ _ _
    refine Sky.land Zc.steady hfr hf sky' fun h3 fl3 up3 => ?_
    have J3 : Inv X pins σ' H' { s' with heap := h3 } := J.landed nb fl3.1 (up.trans up3) os ag
    obtain ⟨oe3, vs3, he3, hz3, hd3⟩ := fl3.there
    have notFr : ∀ {h : Heap} {o : Obj} {vs : Array Value}, h.FunFrames B (X.env :: X.outer) → h.get? a = some o → o.data = .fields vs → a ∉ frs (X.env :: X.outer) := fun {h o vs} ff e dd hm => by
      obtain ⟨_, o', e', hnf⟩ := ff.mem hm
      rw [e] at e'; cases e'
      exact hnf _ dd
    have nfr := notFr fl3.2.2.1 he3 hd3
    have nL : a ≠ X.env.locals := fun z => nfr (List.mem_filterMap.mpr ⟨X.env, List.mem_cons_self, by rw [hf, z]⟩)
    have nF : a ∉ X.fs := fun hm => by
      obtain ⟨e, he, q⟩ := List.mem_filterMap.mp hm
      exact nfr (List.mem_filterMap.mpr ⟨e, List.mem_cons_of_mem _ he, q⟩)
    have a0 : sI.heap.get? a = none := by
      cases e : sI.heap.get? a with
      | none => rfl
      | some o =>
        have := nb a o e (by rw [hs]; exact nfr)
        rw [fl3.2.1] at this
        cases this
    have S3 := J3.suite he3 hd3 na nL nF
    refine wpAny_handleBy_cons (codeAny_handlers_test ?_) (by intro q; cases q)
    have LT : PySem.W.Looks (model X.prog X.w) h3 (typeOf (.ref a)) cls := fun A Q E s k q => wpAny_typeOf_ref (k _ _ he3) (by rw [hz3.1]; exact q)
    have LM := PySem.W.exm_one (M := model X.prog X.w) (J3.kIn) LT hb1
    have test : ∀ {Q : Value → Shared → Prop} {E : Value → Shared → Prop}, Q c { s' with heap := h3 } → wpAny (model X.prog X.w) (X.A.mark (some (.ref a))) (eval (.Name x np) X.env) Q E { s' with heap := h3 } := fun {Q E} q => by
      obtain ⟨hg, hdbg, hm | ⟨hm, hv, hnn⟩⟩ := hc
      · exact ld_glob (X := X.suite a ((a, oe3) :: (X.pn ++ pins))) S3 hg hm q hdbg
      · exact ld_blt (X := X.suite a ((a, oe3) :: (X.pn ++ pins))) S3 hg hm hv q hnn hdbg
    refine test (LM.here ?_)
    cases b with
    | true =>
      refine codeAny_handlers_suite_as ?_
      refine HandSPX.lands_againZ fl3 fun h4 fl4 up4 => ?_
      have J4 : Inv X pins σ' H' { s' with heap := h4 } := J.landed nb fl4.1 ((up.trans up3).trans up4) os ag
      obtain ⟨oe4, vs4, he4, hz4, hd4⟩ := fl4.there
      obtain ⟨hd0, hyes2⟩ := hyes rfl
      subst hd0
      have J5 := inv_track (φ := fun h => ∃ (oe : Obj) (vs : Array Value), h.get? a = some oe ∧ Zc cls none oe ∧ oe.data = .fields vs) J4 J a0 na nL ⟨_, _, he4, hd4⟩ ⟨⟨_, _, he4, hz4, hd4⟩, ⟨_, he4⟩, fun _ _ ⟨o, v, q, r⟩ k => ⟨o, v, k o q, r⟩⟩ hex
      have S4 := inv_suiteT (a := a) J5
      refine store_ok (X := X.suite a (X.pn ++ pins)) (v := .ref a) S4 hN hi hloc rfl (fun s5 S5 => ?_) (.inr hln)
      refine wpAny_mono ((hsu a (X.pn ++ pins)).run [] s5 _ _ _ S5 (hyes2 a na)) (fun f s6 hsp => ?_) (fun _ _ z => False.elim z)
      have end_ : ∀ {σ6 : L2.St} {H6 : Hp} {Q : Shared → Prop}, Inv (X.suite a (X.pn ++ pins)) [] σ6 H6 s6 → (∀ s7, Inv X pins (σ6.set i none) H6 s7 → Q s7) →
          wpAny (model X.prog X.w) X.A (do bindName X.env n .none; unbindBehindTheSuite X.env n pos') (fun _ s7 => Q s7) X.xe s6 := fun {σ6 H6 Q} S6 hq => gone_ok (inv_unsuiteT S6 ok) hN hi hln hq
      cases f with
      | next =>
        obtain ⟨σ6, H6, S6, q6⟩ := hsp
        exact end_ S6 fun s7 J7 => ⟨_, _, J7, q6⟩
      | brk =>
        obtain ⟨σ6, H6, S6, q6⟩ := hsp
        exact end_ S6 fun s7 J7 => ⟨_, _, J7, q6⟩
      | cont =>
        obtain ⟨σ6, H6, S6, q6⟩ := hsp
        exact end_ S6 fun s7 J7 => ⟨_, _, J7, q6⟩
      | ret u =>
        obtain ⟨v6, σ6, H6, S6, r6, q6⟩ := hsp
        exact end_ S6 fun s7 J7 => ⟨_, _, _, J7, r6, q6⟩
    | false =>
      show wpAny _ X.A (handleBy (.ref a) X.env []) _ _ _
      refine wpAny_handleBy_nil ?_
      obtain ⟨k1, k2, k3, oe, vs, T, oT, ts', he, hz, hd, h1, hr⟩ := id fl3
      unfold PySem.passOn
      refine wpAny_bind (wpAny_field he hd h1 ?_)
      rw [if_neg (show ¬ ((Value.ref T == Value.none) = true) from by simp)]
      have fin : wpAny (model X.prog X.w) X.A (setFlight (.ref a) X.env.frame) (fun _ s4 => wpAny (model X.prog X.w) X.A (throw (.ref a) : Sem Flow) (SP X pins D) X.xe s4) X.xe { s' with heap := h3 } := by
        rw [hf]
        refine HandSPX.setFlight_upZ fl3 fun h4 hh4 up4 => wpAny_throw (tk _ _ ?_)
        exact ⟨a, B, sI, pins, σ', H', cls, d, rfl, J, nb, (up.trans up3).trans up4, .inr (.inr (by rw [hs]; exact hh4)), na, os, ag, hno rfl⟩
      first
        | exact wpAny_bind (wpAny_pure (wpAny_bind fin))
        | exact wpAny_bind fin
  · cases f with
    | next =>
      obtain ⟨σ', H', J', q⟩ := hsp
      exact wpAny_execs_nil ⟨σ', H', J'.ofTry ok, q⟩
    | brk =>
      obtain ⟨σ', H', J', q⟩ := hsp
      exact ⟨σ', H', J'.ofTry ok, q⟩
    | cont =>
      obtain ⟨σ', H', J', q⟩ := hsp
      exact ⟨σ', H', J'.ofTry ok, q⟩
    | ret u =>
      obtain ⟨v, σ', H', J', r, q⟩ := hsp
      exact ⟨v, σ', H', J'.ofTry ok, r, q⟩
/-- the clause on data: slot i holds the exception in the suite, nothing behind -/
def dTry (K : PySem.W.Frag) (c : Value) (i : Nat) (tb : EW → DS) (td : DS) (ew : EW) : DS := fun DD Γ S =>
  tb (fun cls Γ1 S1 => ∃ b, PySem.W.exmOne K cls c = some b ∧
    (b = true → (∃ C, cls = .ref C ∧ ExcC K C) ∧ td { nx := fun Γ2 S2 => DD.nx (Γ2.set i none) S2, rt := DD.rt, bk := fun Γ2 S2 => DD.bk (Γ2.set i none) S2, ct := fun Γ2 S2 => DD.ct (Γ2.set i none) S2 } (Γ1.set i (some (.d (.exc cls)))) S1) ∧
    (b = false → ew cls Γ1 S1)) DD Γ S
theorem ps_dtry {B : Bs} {tb : EW → DS} {td : DS} {ew : EW} (hs : X.stack = X.env :: X.outer) (hf : X.env.frame = some X.env.locals) (hex : X.ex = []) (hN : X.N.Nodup) (dx : DX X B Wout ew) (i : Nat) (hi : X.N[i]? = some n) (hln : X.env.kindOf n = some .local) (hc : Names X x c)
    (hb : ∀ (W : WX) (ew : EW) (pn : List (Addr × Obj)) (xe : Value → Shared → Prop), DX (X.tr pn xe) B W ew → PassesOwn (model X.prog X.w) X.A X.env xe → PSsD (X.tr pn xe) B body (tb ew))
    (hsu : ∀ (a : Addr) (pn : List (Addr × Obj)), PSsD (X.suite a pn) B (b₀ :: suite) td) :
    PSD X B (.Try body [.ExceptHandler (some (.Name x np)) (some n) (b₀ :: suite) pos'] [] [] pos) (dTry X.K c i tb td ew) := by
  refine PS.weak (ps_try_asT (i := i) (ts := liftS X.K B td) (Wout := Wout)
    (tb := fun W D σ H => ∃ ew1, (∀ Z S Γ σ H fp ofp c, R X.K B Z S Γ σ H fp ofp → ew1 c Γ S → W c none σ H) ∧ liftS X.K B (tb ew1) D σ H) hs hf hex hN hi hln hc dx.tk (fun W pn xe tk hp => ⟨fun pins s σ H D I h => ?_⟩) hsu) fun D σ H h => ?_
  · obtain ⟨ew1, ok, h⟩ := h
    exact (hb W ew1 pn xe ⟨tk, ok⟩ hp).run pins s σ H D I h
  · obtain ⟨Z, S, Γ, fp, ofp, DD, r, h, ok⟩ := h
    refine ⟨_, fun Z1 S1 Γ1 σ1 H1 fp1 ofp1 cls r1 h1 => ?_, Z, S, Γ, fp, ofp, DD, r, h, ok⟩
    obtain ⟨b, e, hy, hn⟩ := h1
    refine ⟨b, e, fun hb => ⟨rfl, fun a ha => ?_⟩, fun hb => dx.ok _ _ _ _ _ _ _ _ r1 (hn hb)⟩
    obtain ⟨⟨C, rfl, hC⟩, h2⟩ := hy hb
    have r2 := r1.growF (o := ExH (.ref C) a) ha
    obtain ⟨ofp2, r3, _⟩ := r2.setD i (v := .ref a) (x := .exc (.ref C)) (.exc upd_same hC)
    have del : ∀ {Z S Γ σ H fp ofp}, R X.K B Z S Γ σ H fp ofp → ∃ ofp', R X.K B Z S (Γ.set i none) (σ.set i none) H fp ofp' := fun r => by
      obtain ⟨o, r', _⟩ := r.del i none
      exact ⟨o, r'⟩
    refine ⟨_, _, _, _, _, _, r3, h2, ⟨fun Z S Γ σ H fp ofp r p => ?_, fun Z S Γ σ H fp ofp r p => ?_, fun Z S Γ σ H fp ofp r p => ?_, ok.rt⟩⟩
    · obtain ⟨o, r'⟩ := del r
      exact ok.nx _ _ _ _ _ _ _ r' p
    · obtain ⟨o, r'⟩ := del r
      exact ok.bk _ _ _ _ _ _ _ r' p
    · obtain ⟨o, r'⟩ := del r
      exact ok.ct _ _ _ _ _ _ _ r' p
end
end DL
namespace DL
open PySem PySem.Spec PyProof.Rows L2
abbrev fSub : D → D → (D → Prop) → Prop := i0 fun i j => .int (i - j)
abbrev fDiv : D → D → (D → Prop) → Prop := iOp CDiv fun i j => .int (i / j)
abbrev fMod : D → D → (D → Prop) → Prop := iOp (fun _ j => 0 < j) fun i j => .int (i % j)
abbrev fPow : D → D → (D → Prop) → Prop := iOp CPow fun i j => .int (i ^ j.toNat)
abbrev fShl : D → D → (D → Prop) → Prop := iOp CPow fun i j => .int (i * 2 ^ j.toNat)
abbrev fLt : D → D → (D → Prop) → Prop := i0 fun i j => .bl (decide (i < j))
abbrev fLe : D → D → (D → Prop) → Prop := i0 fun i j => .bl (decide (i ≤ j))
abbrev fGt : D → D → (D → Prop) → Prop := i0 fun i j => .bl (decide (j < i))
abbrev fGe : D → D → (D → Prop) → Prop := i0 fun i j => .bl (decide (j ≤ i))
abbrev fIsB : D → D → (D → Prop) → Prop := bOp fun a b => decide (a = b)
abbrev fNotB : D → D → (D → Prop) → Prop := bOp fun a b => !decide (a = b)
/-! ### built-ins -/
theorem bb_len : bootBuiltins "len" = some (.builtin "len") := by rfl
theorem bb_all : bootBuiltins "all" = some (.builtin "all") := by rfl
theorem bb_any : bootBuiltins "any" = some (.builtin "any") := by rfl
theorem bb_isinstance : bootBuiltins "isinstance" = some (.builtin "isinstance") := by rfl
theorem bb_max : bootBuiltins "max" = some (.builtin "max") := by rfl
theorem bb_min : bootBuiltins "min" = some (.builtin "min") := by rfl
theorem bb_sorted : bootBuiltins "sorted" = some (.builtin "sorted") := by rfl
theorem bb_sum : bootBuiltins "sum" = some (.builtin "sum") := by rfl
theorem bb_int : bootBuiltins "int" = some (.type "int") := by rfl
theorem bb_tuple : bootBuiltins "tuple" = some (.type "tuple") := by rfl
theorem bb_list : bootBuiltins "list" = some (.type "list") := by rfl
theorem bb_str : bootBuiltins "str" = some (.type "str") := by rfl
theorem bb_bool : bootBuiltins "bool" = some (.type "bool") := by rfl
theorem bb_dict : bootBuiltins "dict" = some (.type "dict") := by rfl
theorem bb_ValueError : bootBuiltins "ValueError" = some (.type "ValueError") := by rfl
theorem bb_TypeError : bootBuiltins "TypeError" = some (.type "TypeError") := by rfl
theorem bb_Exception : bootBuiltins "Exception" = some (.type "Exception") := by rfl
/-! ### defs, by what the top has written of them -/
structure Raw (K : PySem.W.Frag) (mg : Str → Option Value) (x : Str) (st : Stmt) (ps : List Str) : Prop where
  ex : ∃ (f : Addr) (fd : FuncData), mg x = some (.ref f) ∧ PySem.W.keepIn K (.ref f) = true ∧ Binds K fd ps [] ∧ Fun K x x st f fd
structure Has (P : Program) (wd : World) (K : PySem.W.Frag) (mg : Str → Option Value) (base : Heap) (k : Nat) (x : Str) (ps : List Str) (g : DSpec) : Prop where
  ex : ∃ (f : Addr) (fd : FuncData), mg x = some (.ref f) ∧ PySem.W.keepIn K (.ref f) = true ∧ Binds K fd ps [] ∧ FnOk P wd K mg base (L2.CX P wd) k f fd ps (spS K g)
section
variable {X : Cx} {B : Bs} {a b c e : Expr} {te : DE} {pos p : Pos} {es : List Expr} {tr : DA} {w : WX} {ew : EW} {x : Str} {ps : List Str} {g : DSpec} {k : Nat}
theorem pd_fn (dx : DX X B w ew) (h : Has X.prog X.w X.K X.mg X.base k x ps g) (hr : Room k X.A) (ha : PAD X B (e :: es) tr)
    (hg : Gl X x := by rfl) (hdb : (x == ("__debug__" : Str)) = false := by decide) (he : starEach (e :: es) X.env = (false, eval e X.env) :: starEach es X.env := by rfl) (hpl : (backTo pos (starEach es X.env)).any (·.1) = false := by rfl) :
    PD X B (.Call (.Name x p) (e :: es) [] pos) (dCallS g ew tr) := by
  obtain ⟨f, fd, h1, h2, h3, h4⟩ := h.ex
  exact pd_call dx h4 hr h1 h2 h3 ha hg hdb he hpl
theorem pf_fn (dx : DX X B w ew) (h : Has X.prog X.w X.K X.mg X.base k x ps g) (hr : Room k X.A) (ha : PAD X B (e :: es) tr)
    (hg : Gl X x := by rfl) (hdb : (x == ("__debug__" : Str)) = false := by decide) (he : starEach (e :: es) X.env = (false, eval e X.env) :: starEach es X.env := by rfl) (hpl : (backTo pos (starEach es X.env)).any (·.1) = false := by rfl) :
    PF X B (.Call (.Name x p) (e :: es) [] pos) (dCallSF g ew tr) := by
  obtain ⟨f, fd, h1, h2, h3, h4⟩ := h.ex
  exact pf_call dx h4 hr h1 h2 h3 ha hg hdb he hpl
theorem pd_fn0 (h : Has X.prog X.w X.K X.mg X.base k x ps g) (hr : Room k X.A)
    (hg : Gl X x := by rfl) (hdb : (x == ("__debug__" : Str)) = false := by decide) : PD X B (.Call (.Name x p) [] [] pos) (dCallS g ew0 dNil) := by
  obtain ⟨f, fd, h1, h2, h3, h4⟩ := h.ex
  exact pd_call0 h4 hr h1 h2 h3 hg hdb
theorem has_ok {P : Program} {wd : World} {K : PySem.W.Frag} {mg : Str → Option Value} {base : Heap} {N : List Str} {j : Nat} {st : Stmt}
    (r : Raw K mg x st ps) (Sc : FnScope N ps (defScope st)) (len : ∀ ds S P EP, g ds S P EP → ds.length = ps.length)
    (body : ∀ (f : Addr) (cdv : Value) (A : Around) (outer : List Env) (s : Shared) (H : Hp) (E : XK) (B : Bs) (P0 : W → Sto → Prop) (EP : Value → Sto → Prop) (ds : List D) (S : Sto), Room j (A.deeper (envOfC x (defScope st) s.heap.objs.size f cdv)) →
      DX (cxOf (L2.CX P wd) P wd K mg base N x (defScope st) f cdv A outer s H E) B (fun cls d _ H => E cls d H) (fun c _ S => EP c S) → g ds S P0 EP →
      ∃ ts, PSsD (cxOf (L2.CX P wd) P wd K mg base N x (defScope st) f cdv A outer s H E) B (defBody st) ts ∧ ts { nx := fun _ S' => P0 (.d .non) S', rt := P0 } (startG N.length ds) S) :
    Has P wd K mg base (j + 1) x ps g := by
  obtain ⟨f, fd, h1, h2, h3, h4⟩ := r.ex
  exact ⟨f, fd, h1, h2, h3, fun_ok h4 Sc len fun cdv A outer s H E B P0 EP ds S => body f cdv A outer s H E B P0 EP ds S⟩
theorem pd_gintE {i : Int} (hm : ∃ t : Tok, X.mg x = some (.int i t)) (hg : Gl X x := by rfl) (hd : (x == ("__debug__" : Str)) = false := by decide) : PD X B (.Name x pos) (dC (.int i)) := by
  obtain ⟨t, hm⟩ := hm
  exact pd_gint hg hm hd
theorem pd_gstrE {y : Str} (hm : ∃ t : Tok, X.mg x = some (.str y t)) (hg : Gl X x := by rfl) (hd : (x == ("__debug__" : Str)) = false := by decide) : PD X B (.Name x pos) (dC (.str y)) := by
  obtain ⟨t, hm⟩ := hm
  exact pd_gstr hg hm hd
/-- -x -/
def dNeg (te : DE) : DE := fun Γ S Q => te Γ S fun x S1 => match x with
  | .int i => Q (.int (-i)) S1
  | _ => False
theorem pd_neg (he : PD X B e te) : PD X B (.UnaryOp .USub e pos) (dNeg te) := PE.weak (pe_un un_neg he) fun σ H Q h => by
  obtain ⟨Z, S, Γ, fp, ofp, P, r, h, q⟩ := h
  refine ⟨Z, S, Γ, fp, ofp, _, r, h, fun x S1 h1 Z1 H1 fp1 vx r1 l1 b1 => ?_⟩
  cases x with
  | int i =>
    cases b1
    exact ⟨i, rfl, q _ S1 h1 Z1 H1 fp1 _ r1 l1 (.int _)⟩
  | _ => exact False.elim h1
/-- {} -/
theorem pd_edict : PD X B (.Dict [] [] pos) (dC .edict) := PE.weak pe_dnewK fun σ H Q h => by
  obtain ⟨Z, S, Γ, fp, ofp, P, r, h, q⟩ := h
  intro p hp
  have u := r.upF (o := .dK []) hp
  exact q _ S h _ _ fp _ (r.growF hp) u (.edict (show upd Z.F p (.dK []) p = _ from upd_same))
/-- a class whose exceptions are raised -/
structure ExcD (K : PySem.W.Frag) (mg : Str → Option Value) (x : Str) (C : Addr) : Prop where
  gC : mg x = some (.ref C)
  kC : PySem.W.keepIn K (.ref C) = true
  r1 : PySem.W.subIn K (.ref C) (.type "BaseException") = some true
  r2 : PySem.W.typeIn K (.ref C) = some (.type "type")
  fx : ∃ (B0 newId initId : String) (bmB : List Value), PySem.ExcBaseFacts B0 newId initId bmB ∧ PySem.W.excIn K C bmB newId = true
theorem ps_draiseD {C : Addr} {m : Str} {j0 : Nat} {p2 pos' : Pos} (hc : X.calm = true) (dx : DX X B w ew) (h : ExcD X.K X.mg x C) (hg : Gl X x := by rfl) (hdb : (x == ("__debug__" : Str)) = false := by decide) :
    PSD X B (.Raise (some (.Call (.Name x p) [.Constant (.str m) j0 p2] [] pos)) none pos') (dRaise ew (.ref C)) := by
  obtain ⟨B0, n1, i1, bm, h1, h2⟩ := h.fx
  exact ps_draise hc dx h1 h2 h.gC h.kC (raises_own h.r1 h.r2) hg hdb
end
end DL
namespace DL
open PySem PySem.Spec PyProof.Rows L2
/-! ### promises of plain functions -/
def fn0 (x : D) : DSpec := fun ds S P _ => match ds with
  | [] => P (.d x) S
  | _ => False
def fn1 (dom : D → Prop) (f : D → D) : DSpec := fun ds S P _ => match ds with
  | [x] => dom x ∧ P (.d (f x)) S
  | _ => False
def fn2 (dom : D → D → Prop) (f : D → D → D) : DSpec := fun ds S P _ => match ds with
  | [x, y] => dom x y ∧ P (.d (f x y)) S
  | _ => False
def fn3 (dom : D → D → D → Prop) (f : D → D → D → D) : DSpec := fun ds S P _ => match ds with
  | [x, y, z] => dom x y z ∧ P (.d (f x y z)) S
  | _ => False
theorem len0 {x : D} : ∀ (ds : List D) (S : Sto) (P : W → Sto → Prop) (EP : Value → Sto → Prop), fn0 x ds S P EP → ds.length = 0
  | [], _, _, _, _ => rfl
  | _ :: _, _, _, _, h => h.elim
theorem len1 {dom : D → Prop} {f : D → D} : ∀ (ds : List D) (S : Sto) (P : W → Sto → Prop) (EP : Value → Sto → Prop), fn1 dom f ds S P EP → ds.length = 1
  | [_], _, _, _, _ => rfl
  | [], _, _, _, h => h.elim
  | _ :: _ :: _, _, _, _, h => h.elim
theorem len2 {dom : D → D → Prop} {f : D → D → D} : ∀ (ds : List D) (S : Sto) (P : W → Sto → Prop) (EP : Value → Sto → Prop), fn2 dom f ds S P EP → ds.length = 2
  | [_, _], _, _, _, _ => rfl
  | [], _, _, _, h => h.elim
  | [_], _, _, _, h => h.elim
  | _ :: _ :: _ :: _, _, _, _, h => h.elim
theorem len3 {dom : D → D → D → Prop} {f : D → D → D → D} : ∀ (ds : List D) (S : Sto) (P : W → Sto → Prop) (EP : Value → Sto → Prop), fn3 dom f ds S P EP → ds.length = 3
  | [_, _, _], _, _, _, _ => rfl
  | [], _, _, _, h => h.elim
  | [_], _, _, _, h => h.elim
  | [_, _], _, _, _, h => h.elim
  | _ :: _ :: _ :: _ :: _, _, _, _, h => h.elim
/-! ### branches -/
theorem br_t {A B : Prop} (h : A) : (true = true → A) ∧ (true = false → B) := ⟨fun _ => h, fun z => Bool.noConfusion z⟩
theorem br_f {A B : Prop} (h : B) : (false = true → A) ∧ (false = false → B) := ⟨fun z => Bool.noConfusion z, fun _ => h⟩
theorem br {A B : Prop} {b : Bool} (h : b = true → A) (h' : b = false → B) : (b = true → A) ∧ (b = false → B) := ⟨h, h'⟩
/-! ### comprehensions -/
theorem compL_map {i : Nat} {te : DE} {Γ : Gm} {S : Sto} {Q : List D → Sto → Prop} (f : D → D) : ∀ (xs : List D) (acc : List D), (∀ x ∈ xs, ∀ Q : D → Sto → Prop, Q (f x) S → te (Γ.set i (some (.d x))) S Q) → sz (acc.length + xs.length) → Q (acc ++ xs.map f) S → compL (dgName i) dYes te xs Γ acc S Q
  | [], acc, _, _, q => by
    rw [List.map_nil, List.append_nil] at q
    exact q
  | x :: r, acc, h, hs, q => by
    rw [List.length_cons] at hs
    refine br_t (h x List.mem_cons_self _ ⟨Nat.le_trans (by omega) hs, ?_⟩)
    refine compL_map f r (acc ++ [f x]) (fun y m => h y (List.mem_cons_of_mem _ m)) ?_ ?_
    · rw [List.length_append]
      show _ ≤ _
      have : acc.length + (r.length + 1) ≤ 100000 := hs
      simp only [List.length_cons, List.length_nil]
      omega
    · rw [List.append_assoc]
      exact q
theorem compL_filter {i : Nat} {tt : DT} {te : DE} {Γ : Gm} {S : Sto} {Q : List D → Sto → Prop} (p : D → Bool) (f : D → D) : ∀ (xs : List D) (acc : List D), (∀ x ∈ xs, ∀ Q : Bool → Sto → Prop, Q (p x) S → tt (Γ.set i (some (.d x))) S Q) →
    (∀ x ∈ xs, p x = true → ∀ Q : D → Sto → Prop, Q (f x) S → te (Γ.set i (some (.d x))) S Q) → sz (acc.length + xs.length) → Q (acc ++ (xs.filter p).map f) S → compL (dgName i) tt te xs Γ acc S Q
  | [], acc, _, _, _, q => by
    rw [List.filter_nil, List.map_nil, List.append_nil] at q
    exact q
  | x :: r, acc, hp, h, hs, q => by
    rw [List.length_cons] at hs
    have hs' : acc.length + (r.length + 1) ≤ 100000 := hs
    refine hp x List.mem_cons_self _ (br (fun hb => ?_) fun hb => ?_)
    · refine h x List.mem_cons_self hb _ ⟨Nat.le_trans (by omega) hs, ?_⟩
      refine compL_filter p f r (acc ++ [f x]) (fun y m => hp y (List.mem_cons_of_mem _ m)) (fun y m => h y (List.mem_cons_of_mem _ m)) ?_ ?_
      · rw [List.length_append]
        show _ ≤ _
        simp only [List.length_cons, List.length_nil]
        omega
      · rw [List.filter_cons_of_pos hb, List.map_cons] at q
        rw [List.append_assoc]
        exact q
    · refine compL_filter p f r acc (fun y m => hp y (List.mem_cons_of_mem _ m)) (fun y m => h y (List.mem_cons_of_mem _ m)) ?_ ?_
      · show _ ≤ _
        omega
      · rw [List.filter_cons_of_neg (by rw [hb]; exact Bool.false_ne_true)] at q
        exact q
/-- each item is drawn: what holds of all, what the state keeps -/
theorem compL_inv {i : Nat} {te : DE} {Γ : Gm} {Q : List D → Sto → Prop} (I : Nat → List D → Sto → Prop) : ∀ (xs : List D) (k : Nat) (acc : List D) (S : Sto), I k acc S →
    (∀ x ∈ xs, ∀ k acc S (Q : D → Sto → Prop), I k acc S → (∀ y S', I (k + 1) (acc ++ [y]) S' → Q y S') → te (Γ.set i (some (.d x))) S Q) → sz (acc.length + xs.length) → (∀ acc' S', acc'.length = acc.length + xs.length → I (k + xs.length) acc' S' → Q acc' S') → compL (dgName i) dYes te xs Γ acc S Q
  | [], k, acc, S, h, _, _, q => q acc S rfl h
  | x :: r, k, acc, S, h, st, hs, q => by
    rw [List.length_cons] at hs
    have hs' : acc.length + (r.length + 1) ≤ 100000 := hs
    refine br_t (st x List.mem_cons_self k acc S _ h fun y S' h' => ⟨Nat.le_trans (by omega) hs, ?_⟩)
    refine compL_inv I r (k + 1) (acc ++ [y]) S' h' (fun z m => st z (List.mem_cons_of_mem _ m)) ?_ fun acc' S2 hl h2 => ?_
    · rw [List.length_append]
      show _ ≤ _
      simp only [List.length_cons, List.length_nil]
      omega
    · refine q acc' S2 ?_ ?_
      · rw [hl, List.length_append, List.length_cons]
        simp only [List.length_cons, List.length_nil]
        omega
      · rw [List.length_cons]
        have e : k + (r.length + 1) = k + 1 + r.length := by omega
        rw [e]
        exact h2
theorem compL_invN {i : Nat} {te : DE} {Γ : Gm} {Q : List D → Sto → Prop} (N : Nat) (I : Nat → List D → Sto → Prop) : ∀ (xs : List D) (k : Nat) (acc : List D) (S : Sto), I k acc S → k + xs.length ≤ N →
    (∀ x ∈ xs, ∀ k acc S (Q : D → Sto → Prop), k < N → I k acc S → (∀ y S', I (k + 1) (acc ++ [y]) S' → Q y S') → te (Γ.set i (some (.d x))) S Q) → sz (acc.length + xs.length) → (∀ acc' S', I (k + xs.length) acc' S' → Q acc' S') → compL (dgName i) dYes te xs Γ acc S Q
  | [], k, acc, S, h, _, _, _, q => q acc S h
  | x :: r, k, acc, S, h, hN, st, hs, q => by
    rw [List.length_cons] at hs hN
    have hs' : acc.length + (r.length + 1) ≤ 100000 := hs
    refine br_t (st x List.mem_cons_self k acc S _ (by omega) h fun y S' h' => ⟨Nat.le_trans (by omega) hs, ?_⟩)
    refine compL_invN N I r (k + 1) (acc ++ [y]) S' h' (by omega) (fun z m => st z (List.mem_cons_of_mem _ m)) ?_ fun acc' S2 h2 => ?_
    · rw [List.length_append]
      show _ ≤ _
      simp only [List.length_cons, List.length_nil]
      omega
    · refine q acc' S2 ?_
      rw [List.length_cons]
      have e : k + (r.length + 1) = k + 1 + r.length := by omega
      rw [e]
      exact h2
/-! ### loops -/
theorem forL_inv {dg : DG} {body : DS} {DD : DEnds} (I : List D → Gm → Sto → Prop) (hend : ∀ Γ S, I [] Γ S → DD.nx Γ S)
    (hstep : ∀ x r Γ S (nx : Gm → Sto → Prop), (∀ Γ S, I r Γ S → nx Γ S) → I (x :: r) Γ S → dg x Γ fun Γ1 => body { DD with nx := nx, ct := nx, bk := DD.nx } Γ1 S) : ∀ (xs : List D) (Γ : Gm) (S : Sto), I xs Γ S → forL dg body xs DD Γ S
  | [], Γ, S, h => hend Γ S h
  | x :: r, Γ, S, h => hstep x r Γ S _ (fun Γ' S' h' => forL_inv I hend hstep r Γ' S' h') h
theorem whileL_inv {t : DT} {body : DS} {DD : DEnds} (I : Nat → Gm → Sto → Prop)
    (hstep : ∀ n Γ S (nx : Gm → Sto → Prop), (∀ m Γ S, m < n → I m Γ S → nx Γ S) → I n Γ S → t Γ S fun b S1 => (b = true → body { DD with nx := nx, ct := nx, bk := DD.nx } Γ S1) ∧ (b = false → DD.nx Γ S1)) : ∀ (n : Nat) (Γ : Gm) (S : Sto), I n Γ S → whileL t body (n + 1) DD Γ S := by
  have key : ∀ (n k : Nat) (Γ : Gm) (S : Sto), n < k → I n Γ S → whileL t body k DD Γ S := by
    intro n
    induction n using Nat.strongRecOn with
    | ind n ih =>
      intro k Γ S hk h
      cases k with
      | zero => exact absurd hk (Nat.not_lt_zero _)
      | succ k => exact hstep n Γ S _ (fun m Γ S hm h' => ih m hm k Γ S (by omega) h') h
  exact fun n Γ S h => key n (n + 1) Γ S (Nat.lt_succ_self _) h
/-! ### data that may be looked at -/
mutual
def okD : D → Bool
  | .non | .bl _ | .int _ | .edict => true
  | .str s => decide (s.length ≤ 50000)
  | .tup ds | .lst ds => okDs ds
  | .ref _ | .exc _ | .val _ => false
def okDs : List D → Bool
  | [] => true
  | d :: ds => okD d && okDs ds
end
theorem okDs_mem : ∀ {ds : List D} {d : D}, okDs ds = true → d ∈ ds → okD d = true
  | _ :: _, _, h, .head _ => (Bool.and_eq_true _ _ ▸ (show (_ && _) = true from h)).1
  | _ :: _, _, h, .tail _ m => okDs_mem (Bool.and_eq_true _ _ ▸ (show (_ && _) = true from h)).2 m
theorem okDs_of : ∀ {ds : List D}, (∀ d ∈ ds, okD d = true) → okDs ds = true
  | [], _ => rfl
  | d :: ds, h => by
    show (okD d && okDs ds) = true
    rw [h d List.mem_cons_self, okDs_of fun x m => h x (List.mem_cons_of_mem _ m)]
    rfl
/-! ### what may be compared -/
theorem ck_str (s : Str) : cmpOk (.str s) := ⟨rfl, by rw [py]; exact Nat.zero_le _⟩
theorem ck_int (s : Int) : cmpOk (.int s) := ⟨rfl, by rw [py]; exact Nat.zero_le _⟩
theorem ck_bl (s : Bool) : cmpOk (.bl s) := ⟨rfl, by rw [py]; exact Nat.zero_le _⟩
theorem ck_non : cmpOk .non := ⟨rfl, by rw [py]; exact Nat.zero_le _⟩
/-- of depth at most n -/
def ckN (n : Nat) (x : D) : Prop := pyOk x = true ∧ (py x).depth ≤ n
theorem ckN.ck {n : Nat} {x : D} (h : ckN n x) (hn : n ≤ 60 := by decide) : cmpOk x := ⟨h.1, Nat.le_trans h.2 hn⟩
theorem ckN.mono {n m : Nat} {x : D} (h : ckN n x) (hn : n ≤ m) : ckN m x := ⟨h.1, Nat.le_trans h.2 hn⟩
theorem cn_str (n : Nat) (s : Str) : ckN n (.str s) := ⟨rfl, by rw [py]; exact Nat.zero_le _⟩
theorem cn_int (n : Nat) (s : Int) : ckN n (.int s) := ⟨rfl, by rw [py]; exact Nat.zero_le _⟩
theorem cn_bl (n : Nat) (s : Bool) : ckN n (.bl s) := ⟨rfl, by rw [py]; exact Nat.zero_le _⟩
theorem cn_non (n : Nat) : ckN n .non := ⟨rfl, by rw [py]; exact Nat.zero_le _⟩
theorem cn_all {n : Nat} : ∀ {ds : List D}, (∀ d ∈ ds, ckN n d) → pyOkAll ds = true ∧ PyData.depthAll (pyAll ds) ≤ n
  | [], _ => ⟨rfl, Nat.zero_le _⟩
  | d :: ds, h => by
    obtain ⟨h1, h2⟩ := cn_all fun x m => h x (List.mem_cons_of_mem _ m)
    obtain ⟨h3, h4⟩ := h d List.mem_cons_self
    refine ⟨by rw [pyOkAll, h1, h3]; rfl, ?_⟩
    rw [pyAll, PyData.depthAll]
    exact Nat.max_le.mpr ⟨h4, h2⟩
theorem cn_tup {n : Nat} {ds : List D} (h : ∀ d ∈ ds, ckN n d) : ckN (n + 1) (.tup ds) := by
  obtain ⟨h1, h2⟩ := cn_all h
  exact ⟨by rw [pyOk]; exact h1, by rw [py, PyData.depth]; exact Nat.succ_le_succ h2⟩
theorem cn_lst {n : Nat} {ds : List D} (h : ∀ d ∈ ds, ckN n d) : ckN (n + 1) (.lst ds) := by
  obtain ⟨h1, h2⟩ := cn_all h
  exact ⟨by rw [pyOk]; exact h1, by rw [py, PyData.depth]; exact Nat.succ_le_succ h2⟩
theorem eqD_refl (x : D) : eqD x x = true := SeqAt.eqv_refl_plain _ (py_plain x)
/-! ### places -/
theorem at_ex {α : Type} {xs : List α} {i : Int} (h0 : 0 ≤ i) (h1 : i < xs.length) : ∃ x, atI xs i = some x ∧ x ∈ xs ∧ xs[i.toNat]? = some x := by
  have hl : i.toNat < xs.length := by omega
  refine ⟨xs[i.toNat], ?_, List.getElem_mem hl, List.getElem?_eq_getElem hl⟩
  have e : ((i.toNat : Nat) : Int) = i := Int.toNat_of_nonneg h0
  have := atI_nat (xs := xs) (j := i.toNat) (List.getElem?_eq_getElem hl)
  rw [e] at this
  exact this
theorem ints_mem : ∀ {n : Nat} {lo : Int} {x : D}, x ∈ intsFrom lo n → ∃ i, x = .int i ∧ lo ≤ i ∧ i < lo + n
  | 0, _, _, m => by cases m
  | n + 1, lo, x, m => by
    rcases List.mem_cons.mp m with rfl | m
    · exact ⟨lo, rfl, Int.le_refl _, by omega⟩
    · obtain ⟨i, e, h1, h2⟩ := ints_mem m
      exact ⟨i, e, by omega, by omega⟩
theorem ints_len : ∀ (n : Nat) (lo : Int), (intsFrom lo n).length = n
  | 0, _ => rfl
  | n + 1, lo => by
    show (intsFrom (lo + 1) n).length + 1 = n + 1
    rw [ints_len]
theorem cutL_len {α : Type} (xs : List α) (lo hi : Option Int) : (cutL xs lo hi).length = min (HT.sIx xs.length xs.length hi - HT.sIx xs.length 0 lo) (xs.length - HT.sIx xs.length 0 lo) := by
  unfold cutL
  rw [List.length_take, List.length_drop]
theorem sIx_pos {n d : Nat} {i : Int} (h : 0 ≤ i) : HT.sIx n d (some i) = min i.toNat n := by
  have e : ((i.toNat : Nat) : Int) = i := Int.toNat_of_nonneg h
  rw [← e]
  exact HT.sIx_nat n d i.toNat
theorem cdiv {i j : Int} (h : 0 < j := by decide) (h' : j < 1073741824 := by decide) : CDiv i j := ⟨h, h'⟩
theorem cmul_r {i j : Int} (h : -(2 ^ 64) < j := by decide) (h' : j < 2 ^ 64 := by decide) : CMul i j := .inr ⟨h, h'⟩
theorem cmul_l {i j : Int} (h : -(2 ^ 64) < i := by decide) (h' : i < 2 ^ 64 := by decide) : CMul i j := .inl ⟨h, h'⟩
theorem joinL_one : ∀ cs : List Nat, TL.joinL [] (cs.map fun c => [c]) = cs
  | [] => rfl
  | [c] => rfl
  | c :: d :: r => by
    show [c] ++ ([] ++ TL.joinL [] ((d :: r).map fun c => [c])) = c :: d :: r
    rw [joinL_one (d :: r)]
    rfl
def sg1 (c : Nat) : D := .str ⟨#[c]⟩
theorem sg_strs (cs : List Nat) : strsOf (cs.map sg1) = some (cs.map fun c => (⟨#[c]⟩ : Str)) := by
  rw [← strsOf_map, List.map_map]
  rfl
theorem sg_join (cs : List Nat) : Txt.join ("" : Str) (cs.map fun c => (⟨#[c]⟩ : Str)) = SX.S cs := by
  have e : (cs.map fun c => (⟨#[c]⟩ : Str)) = (cs.map fun c => [c]).map SX.S := by
    rw [List.map_map]
    rfl
  rw [e, show ("" : Str) = SX.S [] from rfl, SX.join_S, joinL_one]
theorem sg_sum (cs : List Nat) : ((cs.map fun c => (⟨#[c]⟩ : Str)).map (·.length)).sum = cs.length := by
  induction cs with
  | nil => rfl
  | cons c cs ih =>
    rw [List.map_cons, List.map_cons, List.sum_cons, ih, List.length_cons]
    show 1 + cs.length = _
    omega
end DL
namespace DL
open PySem PySem.Spec PyProof.Rows L2
/-! ### the end -/
theorem raw_mk {K : PySem.W.Frag} {h : Heap} {mg : Str → Option Value} {x : Str} {st : Stmt} {ps : List Str} {f : Addr} {oc : Value} {od an : Option Addr} {osl : Array (Option Value)} {kV doc pm cdv ct : Value} (X : K.In h) (G : h.Ns mainGlobals mg)
    (a : PySem.W.nsIn K mainGlobals x = some (some (.ref f))) (l : K.lookup f = some ⟨oc, od, .func (PySem.W.fnOf x x (defArgs st) (defBody st) (defScope st) .none kV doc pm an cdv ct), osl⟩) (c : PySem.W.codeIn K cdv x = true) (k : PySem.W.keepIn K (.ref f) = true)
    (hb : ∀ (kV doc pm : Value) (an : Option Addr) (cdv ct : Value) (us : List Value), us.length = ps.length → bindArgs (PySem.W.fnOf x x (defArgs st) (defBody st) (defScope st) .none kV doc pm an cdv ct) ⟨us, []⟩ = pure (ps.zip us)) : Raw K mg x st ps :=
  ⟨f, _, PySem.W.mg_of X G a, k, (fun_mk l c k).binds hb, fun_mk l c k⟩
theorem law_entry {K : PySem.W.Frag} {g : DSpec} {H : Hp} {a : Addr} {ns : List Int} (hS : SqL K H a (ns.map V.int)) (hg : ∀ (P : W → Sto → Prop) (EP : Value → Sto → Prop), (∀ S', P (.d (.bl true)) S') → g [.lst (ns.map D.int)] [] P EP) :
    spS K g [.ref a] H (fun v _ => v = .bl true) fun _ _ _ => False :=
  ⟨⟨H, fun _ => 0, 0⟩, [], [], [.lst (ns.map D.int)], fun w _ => w = .d (.bl true), fun _ _ => False, ⟨rfl, fun _ _ h => h, .nil, List.nodup_nil, fun _ m => by cases m⟩, .cons (.lst hS (DVs.ints ns)) .nil, hg _ _ fun _ => rfl, fun w S' h Z' H' fp' v _ _ b => by
    subst h
    cases b
    rfl, fun _ _ h => h.elim⟩
theorem law_end {P : Program} {wd : World} {H : Hp} {s : Shared} {e : Value} {s' : Shared} (h : L2.CX P wd [] H s (fun _ _ _ => False) e s') : False := by
  obtain ⟨a, B, H', cls, d, _, _, _, _, _, _, _, h⟩ := h
  exact h
/-! ### classes of one's own, asked of -/
theorem kit_own {K : PySem.W.Frag} {T C : Addr} {b : Bool} (h1 : PySem.W.isClsIn K C = true) (h2 : PySem.W.typeIn K (.ref C) = some (.type "type")) (h3 : PySem.W.subIn K (.ref T) (.ref C) = some b) (h4 : PySem.W.subIn K (.ref T) (.ref T) = some true) : PySem.W.kitOne K (.ref T) (.ref C) = some b := by
  have h1' : (PySem.W.clsIn K C).isSome = true := h1
  have e2 : ((PySem.W.clsIn K C).isSome && PySem.W.typeIn K (.ref C) == some (.type "type")) = true := by
    rw [h1', h2] <;> rfl
  show (if (Value.ref T == Value.ref C) = true then some true else if ((PySem.W.clsIn K C).isSome && PySem.W.typeIn K (.ref C) == some (.type "type")) = true then PySem.W.subIn K (.ref T) (.ref C) else none) = some b
  rw [if_pos e2]
  by_cases z : (Value.ref T == Value.ref C) = true
  · rw [if_pos z]
    have e := beq_iff_eq.mp z
    rw [← e, h4] at h3
    exact h3
  · rw [if_neg z]
    exact h3
theorem kit_VE {K : PySem.W.Frag} {T : Addr} {n : String} {b : Bool} (hn : PySem.W.kitMeta n = true) (h3 : PySem.W.subIn K (.ref T) (.type n) = some b) : PySem.W.kitOne K (.ref T) (.type n) = some b := by
  show (if (Value.ref T == Value.type n) = true then some true else if PySem.W.kitMeta n = true then PySem.W.subIn K (.ref T) (.type n) else none) = some b
  have nz : ¬(Value.ref T == Value.type n) = true := fun z => by
    have e : Value.ref T = Value.type n := beq_iff_eq.mp z
    cases e
  rw [if_pos hn, if_neg nz]
  exact h3
theorem exm_own {K : PySem.W.Frag} {T C : Addr} {b : Bool} (h0 : PySem.W.subIn K (.ref C) (.type "BaseException") = some true) (h1 : PySem.W.isClsIn K C = true) (h2 : PySem.W.typeIn K (.ref C) = some (.type "type")) (h3 : PySem.W.subIn K (.ref T) (.ref C) = some b) : PySem.W.exmOne K (.ref T) (.ref C) = some b := by
  have e1 : (PySem.W.subIn K (.ref C) (.type "BaseException") == some true) = true := by rw [h0] <;> rfl
  have h1' : (PySem.W.clsIn K C).isSome = true := h1
  have e2 : ((PySem.W.clsIn K C).isSome && PySem.W.typeIn K (.ref C) == some (.type "type")) = true := by
    rw [h1', h2] <;> rfl
  show (if (PySem.W.subIn K (.ref C) (.type "BaseException") == some true) = true then (if ((PySem.W.clsIn K C).isSome && PySem.W.typeIn K (.ref C) == some (.type "type")) = true then PySem.W.subIn K (.ref T) (.ref C) else none) else none) = some b
  rw [if_pos e1, if_pos e2]
  exact h3
end DL
namespace DLS
open PySem PySem.W PySem.Calls PyProof.Rows PySem.SeqAt
/-! ### rows of data that are compared up to the first place at which they differ -/
def lexOk : List PyData → List PyData → Bool
  | x :: xs, y :: ys => alike x y && (!PyData.eqv x y || lexOk xs ys)
  | _, _ => true
theorem lexOk_cons {x y : PyData} {xs ys : List PyData} (h : lexOk (x :: xs) (y :: ys) = true) : alike x y = true ∧ (PyData.eqv x y = true → lexOk xs ys = true) := by
  rw [lexOk, Bool.and_eq_true] at h
  refine ⟨h.1, fun e => ?_⟩
  have h2 := h.2
  rw [e] at h2
  exact h2
section
variable {prog : Program} {w : World} {A : Around} {E : Value → Shared → Prop} {s : Shared}
theorem lex_walk {b fin : Bool} {Q : Bool → Shared → Prop} : ∀ (xs ys : List PyData) (i : Nat) (vs ws : List Value) (as bs : List Addr), ReadsAll s.heap vs xs as → ReadsAll s.heap ws ys bs → lexOk xs ys = true →
    A.units + min (PyData.depthAll xs) (PyData.depthAll ys) < cLine → (b = true → i = 0 → ∀ x r t, xs = x :: r → x ≠ .tuple t) → fin = decide (xs.length < ys.length) → Q (PyProof.Rows.lexLt itemOrd (keyToksAll xs) (keyToksAll ys)) s → KatLex prog w A b fin Q (vs.zip ws) i s := by
  intro xs
  induction xs with
  | nil =>
    intro ys i vs ws as bs ra rb _ hu hb hf hq
    exact katLex_alike [] ys i vs ws as bs ra rb (by cases ys <;> rfl) hu hb hf hq
  | cons x xs ih =>
    intro ys i vs ws as bs ra rb hl hu hb hf hq
    cases ys with
    | nil => exact katLex_alike (x :: xs) [] i vs ws as bs ra rb rfl hu hb hf hq
    | cons y ys =>
      obtain ⟨h1, h2⟩ := lexOk_cons hl
      cases ra with
      | cons r rs =>
        cases rb with
        | cons r' rs' =>
          rw [List.zip_cons_cons]
          have hx := eqAt_alike x y A s _ _ _ _ r r' h1 (room_head hu) prog w
          refine kat_cons (hx _ _ ?_)
          cases he : PyData.eqv x y with
          | true =>
            rw [dataLt_all_yes h1 he] at hq
            refine kat_yes (ih ys (i + 1) _ _ _ _ rs rs' (h2 he) (room_tail hu) (fun _ hi => absurd hi (Nat.succ_ne_zero i)) ?_ hq)
            rw [hf, List.length_cons, List.length_cons]
            by_cases z : xs.length < ys.length
            · rw [decide_eq_true z]
              exact decide_eq_true (by omega)
            · rw [decide_eq_false z]
              exact decide_eq_false (by omega)
          | false =>
            rw [dataLt_all_no h1 he] at hq
            refine kat_no (oneLt_alike (fun hbi t => ?_) r r' h1 (ne_none_of h1 he) (room_head hu) hq)
            rw [Bool.and_eq_true] at hbi
            exact hb hbi.1 (by have := hbi.2; simpa using this) x xs t rfl
end
/-! ### one datum a value -/
mutual
theorem one_datum {h : Heap} : ∀ (d d' : PyData) (v : Value) (as as' : List Addr), alike d d = true → Reads h v d as → Reads h v d' as' → d = d'
  | .none, _, _, _, _, _, r, r' => by cases r; cases r'; rfl
  | .bool _, _, _, _, _, _, r, r' => by cases r; cases r'; rfl
  | .int _, _, _, _, _, _, r, r' => by cases r; cases r'; rfl
  | .str _, _, _, _, _, _, r, r' => by cases r; cases r'; rfl
  | .list xs, _, _, _, _, k, r, r' => by
    cases r with
    | list g1 g2 g3 g4 =>
      cases r' with
      | list k1 k2 k3 k4 =>
        rw [g1] at k1
        cases k1
        rw [g3] at k3
        cases k3
        rw [all_data _ _ _ _ _ (by simpa [alike] using k) g4 k4]
      | tuple k1 k2 k3 k4 =>
        rw [g1] at k1
        cases k1
        rw [g2] at k2
        exact absurd k2 (by simp)
      | dict k1 k2 k3 k4 k5 =>
        rw [g1] at k1
        cases k1
        rw [g2] at k2
        exact absurd k2 (by simp)
  | .tuple xs, _, _, _, _, k, r, r' => by
    cases r with
    | tuple g1 g2 g3 g4 =>
      cases r' with
      | tuple k1 k2 k3 k4 =>
        rw [g1] at k1
        cases k1
        rw [g3] at k3
        cases k3
        rw [all_data _ _ _ _ _ (by simpa [alike] using k) g4 k4]
      | list k1 k2 k3 k4 =>
        rw [g1] at k1
        cases k1
        rw [g2] at k2
        exact absurd k2 (by simp)
      | dict k1 k2 k3 k4 k5 =>
        rw [g1] at k1
        cases k1
        rw [g2] at k2
        exact absurd k2 (by simp)
  | .dict _, _, _, _, _, k, _, _ => absurd k (by simp [alike])
theorem all_data {h : Heap} : ∀ (ds ds' : List PyData) (vs : List Value) (as as' : List Addr), alikeAll ds ds = true → ReadsAll h vs ds as → ReadsAll h vs ds' as' → ds = ds'
  | [], _, _, _, _, _, r, r' => by cases r; cases r'; rfl
  | d :: ds, _, _, _, _, k, r, r' => by
    cases r with
    | cons g1 g2 =>
      cases r' with
      | cons k1 k2 => rw [one_datum d _ _ _ _ (alike_all_cons k).1 g1 k1, all_data ds _ _ _ _ (alike_all_cons k).2 g2 k2]
end
/-! ### what can be sorted -/
def Selves (ds : List PyData) : Prop := ∀ d ∈ ds, alike d d = true
theorem kd_some {h : Heap} {ds : List PyData} (hs : Selves ds) {v : Value} {d : PyData} {as : List Addr} (hd : d ∈ ds) (r : Reads h v d as) : (dataKind h ds).keyOf v = some (keyToks d) := by
  have q : ∃ d, d ∈ ds ∧ ∃ as, Reads h v d as := ⟨d, hd, as, r⟩
  obtain ⟨h1, as', h2⟩ := q.choose_spec
  have e2 : q.choose = d := one_datum _ _ _ _ _ (hs _ h1) h2 r
  show (open Classical in if q : ∃ d, d ∈ ds ∧ ∃ as, Reads h v d as then some (keyToks q.choose) else none) = _
  rw [dif_pos q, e2]
/-- keys that sorting can compare: all rows with an item, compared up to the first difference; or alike rows; or alike others -/
def Keys (ds : List PyData) : Prop :=
  ((∀ d ∈ ds, ∃ x r, d = .tuple (x :: r)) ∧ ∀ d ∈ ds, ∀ d' ∈ ds, ∀ xs ys, d = .tuple xs → d' = .tuple ys → lexOk xs ys = true) ∨
  (AllAlike ds ∧ ((∀ d ∈ ds, ∃ xs, d = .tuple xs) ∨ ∀ d ∈ ds, d ≠ .none ∧ ∀ xs, d ≠ .tuple xs))
section
variable {prog : Program} {w : World} {A : Around} {E : Value → Shared → Prop} {s : Shared}
theorem firsts_of : ∀ (vs : List Value) (ds : List PyData) {Q : List (Option Value) → Shared → Prop}, EachIs (fun v d => ∃ as, Reads s.heap v d as) vs ds → (∀ d ∈ ds, ∃ xs, d = .tuple xs) →
    (∀ os : List (Option Value), EachIs (fun (o : Option Value) d => o.isSome = true ↔ ∃ x r, d = PyData.tuple (x :: r)) os ds → Q os s) → wpAny (model prog w) A (vs.mapM firstOfTuple') Q E s
  | _, _, Q, .nil, _, h => by
    rw [List.mapM_nil]
    exact wpAny_pure (h [] .nil)
  | _, _, Q, .cons (a := v) (as := vs) (b := d) (bs := ds) ⟨as, r⟩ t, ht, h => by
    obtain ⟨xs, rfl⟩ := ht d (List.mem_cons_self ..)
    rw [List.mapM_cons]
    refine wpAny_bind ?_
    rw [kas_first_eq]
    cases r with
    | @tuple a o us n _ _ ho hc hd hr =>
      refine wpAny_bind (Looks.here (show Looks (model prog w) s.heap (typeOf (.ref a)) o.cls from (Looks.ld ho).andThen .now) ?_)
      rw [hc, if_neg (by first | decide | simp)]
      refine wpAny_bind (listItems_at ho hd (wpAny_pure ?_))
      refine wpAny_bind (firsts_of _ _ (Q := fun bs s' => wpAny (model prog w) A (pure (us[0]? :: bs)) Q E s') t (fun d m => ht d (List.mem_cons_of_mem _ m)) fun os he => wpAny_pure (h _ (.cons ?_ he)))
      have hl := SeqAt.ReadsAll.length _ _ _ hr
      cases xs with
      | nil =>
        have : us[0]? = none := Array.getElem?_eq_none (by rw [← Array.length_toList, hl]; exact Nat.le_refl _)
        rw [this]
        exact ⟨fun z => (Bool.noConfusion z), fun ⟨x, r, z⟩ => by cases z⟩
      | cons x r =>
        have : 0 < us.size := by rw [← Array.length_toList, hl]; exact Nat.succ_pos _
        rw [Array.getElem?_eq_getElem this]
        exact ⟨fun _ => ⟨x, r, rfl⟩, fun _ => rfl⟩
theorem rc_tuples {f : Bool} {xs ys : List PyData} {a b : Value} {as bs : List Addr} {Q : Bool → Shared → Prop} (ra : Reads s.heap a (.tuple xs) as) (rb : Reads s.heap b (.tuple ys) bs) (h : alike (.tuple xs) (.tuple ys) = true)
    (hu : A.units + min (PyData.tuple xs).depth (PyData.tuple ys).depth < cLine) (hq : Q (dataLt (.tuple xs) (.tuple ys)) s) : wpAny (model prog w) A (oneLt' f a b) Q E s := by
  cases f with
  | false =>
    rw [oneLt'_eq]
    simp only [Bool.false_eq_true, if_false]
    exact wpAny_bind (rcLt_alike _ _ A s a b as bs ra rb h (fun z => nomatch z) hu prog w E _ (wpAny_truthy_bool hq))
  | true =>
    have hal : alikeAll xs ys = true := by simpa [alike] using h
    cases ra with
    | @tuple l o vs n _ as1 h1 h2 h3 h4 =>
      cases rb with
      | @tuple l' o' vs' n' _ bs1 k1 k2 k3 k4 =>
        have n1 : vs.size = xs.length := by have := SeqAt.ReadsAll.length _ _ _ h4; simpa using this
        have n2 : vs'.size = ys.length := by have := SeqAt.ReadsAll.length _ _ _ k4; simpa using this
        have hu' : A.units + min (PyData.depthAll xs + 1) (PyData.depthAll ys + 1) < cLine := by simpa [PyData.depth] using hu
        rw [dataLt_tuple, ← firstLt_toks xs ys hal, ← n1, ← n2] at hq
        rw [oneLt'_eq]
        simp only [if_true]
        obtain ⟨c1, d1, t1, sl1⟩ := o
        obtain ⟨c2, d2, t2, sl2⟩ := o'
        simp only at h2 h3 k2 k3
        subst h2 h3 k2 k3
        refine wpAny_bind (wpAny_cRoomFor (room_here hu') ?_)
        refine wpAny_bind (wpAny_callSpecialIfBound?_slot (T := "tuple") ⟨_, h1, rfl⟩ F.slot_tuple_lt (call_meets F.slot_tuple_lt ⟨_, h1, rfl⟩ F.entry_tuple_lt (F.args_tuple_lt_2 _ _)
          (tuple_ltAt l l' vs vs' n n' d1 d2 sl1 sl2 (pairEq xs ys) fun j => dataLt (xs.getD j .none) (ys.getD j .none)) ⟨h1, k1, fun j j1 j2 => ?_, fun j j1 j2 hj => ?_, ?_⟩))
        · have := eqAt_alikeAll xs ys A.in1 s vs.toList vs'.toList _ _ h4 k4 hal (room_in hu') j (by simpa using j1) (by simpa using j2)
          simpa using this
        · have := rcLt_alikeAll xs ys A.in1 s vs.toList vs'.toList _ _ h4 k4 hal (room_in hu') j (by simpa using j1) (by simpa using j2) hj
          simpa using this
        · exact wpAny_truthy_bool hq
end
end DLS
namespace DLS
open PySem PySem.W PySem.Calls PyProof.Rows PySem.SeqAt
def neT : PyData → Bool
  | .tuple (_ :: _) => true
  | _ => false
theorem neT_iff {d : PyData} : neT d = true ↔ ∃ x r, d = .tuple (x :: r) := by
  constructor
  · intro h
    unfold neT at h
    split at h
    · exact ⟨_, _, rfl⟩
    · cases h
  · rintro ⟨x, r, rfl⟩
    rfl
section
variable {prog : Program} {w : World} {A : Around} {s : Shared}
theorem kind_mixed {vs : List Value} {ds : List PyData} {d0 : PyData} {dr : List PyData} (e : EachIs (fun v d => ∃ as, Reads s.heap v d as) vs ds) (ht : ∀ d ∈ ds, ∃ xs, d = .tuple xs) (h0 : ds = d0 :: dr) (hn : ¬ ∀ d ∈ ds, ∃ x r, d = .tuple (x :: r))
    {kd : SortKind} (hk : kd = if neT d0 = true then general' else oneType') {E : Value → Shared → Prop} {Q : SortKind → Shared → Prop} (hq : Q kd s) : wpAny (model prog w) A (keyKind' vs.toArray) Q E s := by
  rw [kat_kind_eq, List.mapM_toArray, map_eq_pure_bind]
  refine wpAny_bind (wpAny_bind (firsts_of vs ds e ht fun os he => wpAny_pure ?_))
  have hlen : os.length = ds.length := he.length
  have hall : (os.toArray.all fun x => x.isSome) = false := by
    cases hz : (os.toArray.all fun x => x.isSome) with
    | false => rfl
    | true =>
      refine absurd (fun d hd => ?_) hn
      rw [List.all_toArray, List.all_eq_true] at hz
      obtain ⟨i, hi, ed⟩ := List.mem_iff_getElem.mp hd
      have hi' : i < os.length := by omega
      have hp : (os[i], ds[i]) ∈ os.zip ds := by
        rw [List.mem_iff_getElem]
        exact ⟨i, by rw [List.length_zip]; omega, by rw [List.getElem_zip]⟩
      have q := he.zip _ hp
      rw [← ed]
      exact q.mp (hz _ (List.getElem_mem hi'))
  rw [hall]
  simp only [Bool.false_eq_true, if_false]
  subst h0
  cases he with
  | @cons o d1 os' dr' ho ht' =>
    have h0 : ((o :: os').toArray[0]?.bind id) = o := by simp
    rw [h0]
    by_cases hx : neT d0 = true
    · rw [if_pos hx] at hk
      rw [if_pos (ho.mpr (neT_iff.mp hx))]
      subst hk
      exact wpAny_pure hq
    · rw [if_neg hx] at hk
      rw [if_neg (fun z => hx (neT_iff.mpr (ho.mp z)))]
      subst hk
      rw [oneTypeOnly'_eq, List.mapM_toArray, map_eq_pure_bind]
      refine wpAny_bind (wpAny_bind (wpAny_bind (kas_mapM (r := Value.type "tuple") _ (fun v hv Q' hq => ?_) (wpAny_pure ?_))))
      · obtain ⟨d, hd, as, r⟩ := e.left v hv
        obtain ⟨xs, rfl⟩ := ht d hd
        exact (looks_reads r : Looks (model prog w) s.heap (typeOf v) (Value.type "tuple")).here hq
      · have hne : vs ≠ [] := by
          intro z
          rw [z] at e
          cases e
        obtain ⟨v1, vr, rfl⟩ : ∃ v1 vr, vs = v1 :: vr := by
          cases vs with
          | nil => exact absurd rfl hne
          | cons v1 vr => exact ⟨v1, vr, rfl⟩
        have h0 : (List.map (fun _ => Value.type "tuple") (v1 :: vr)).toArray[0]? = some (Value.type "tuple") := by simp
        rw [h0]
        have hall2 : ((List.map (fun _ => Value.type "tuple") (v1 :: vr)).toArray.all fun x => x == Value.type "tuple") = true := by
          simp only [List.all_toArray, List.all_map, List.all_eq_true]
          intro _ _
          rfl
        simp only [hall2, if_true]
        exact wpAny_pure (wpAny_pure hq)
theorem sorts_of {vs : List Value} {ds : List PyData} (e : EachIs (fun v d => ∃ as, Reads s.heap v d as) vs ds) (hs : Selves ds) (hk : Keys ds) (hu : ∀ d ∈ ds, A.units + d.depth < cLine) : SortsAt prog w A s (dataKind s.heap ds) vs := by
  have room : ∀ {d d' : PyData}, d ∈ ds → A.units + min d.depth d'.depth < cLine := fun {d d'} hd => Nat.lt_of_le_of_lt (Nat.add_le_add_left (Nat.min_le_left _ _) _) (hu d hd)
  have keys : ∀ v, v ∈ vs → ∃ a, (dataKind s.heap ds).keyOf v = some a := fun v hv => by
    obtain ⟨d, hd, as, r⟩ := e.left v hv
    exact ⟨_, kd_some hs hd r⟩
  rcases hk with ⟨ht, hl⟩ | ⟨hal, ht | hn⟩
  · refine ⟨keys, ?_⟩
    cases ds with
    | nil =>
      cases e
      exact ⟨general', fun E x y a b Q ha _ _ => by
        obtain ⟨d, _, hd, _⟩ := dataKind_inv ha
        exact absurd hd (by simp), fun h2 => absurd h2 (by simp)⟩
    | cons d₀ ds₀ =>
      obtain ⟨x₀, r₀, e₀⟩ := ht d₀ (List.mem_cons_self ..)
      have hfirst : ∀ x r, PyData.tuple (x :: r) ∈ d₀ :: ds₀ → alike x x₀ = true := fun x r hm =>
        (lexOk_cons (hl _ hm d₀ (List.mem_cons_self ..) _ _ rfl e₀)).1
      refine ⟨tuples' (dataType x₀ != Value.type "tuple"), ?_, fun h2 E Q hq => ?_⟩
      · intro E x y a b Q ha hb hq
        obtain ⟨d, as, hd, ra, rfl⟩ := dataKind_inv ha
        obtain ⟨d', as', hd', rb, rfl⟩ := dataKind_inv hb
        obtain ⟨x1, r1, rfl⟩ := ht d hd
        obtain ⟨x2, r2, rfl⟩ := ht d' hd'
        have hroom := room (d' := .tuple (x2 :: r2)) hd
        have hdd := hl _ hd _ hd' _ _ rfl rfl
        have hq' : Q (dataLt (.tuple (x1 :: r1)) (.tuple (x2 :: r2))) s := hq
        rw [dataLt_tuple] at hq'
        cases ra with
        | @tuple l o xs n _ _ h1 h2 h3 h4 =>
          cases rb with
          | @tuple l' o' xs' n' _ _ k1 k2 k3 k4 =>
            have n1 : xs.size = (x1 :: r1).length := by have := SeqAt.ReadsAll.length _ _ _ h4; simpa using this
            have n2 : xs'.size = (x2 :: r2).length := by have := SeqAt.ReadsAll.length _ _ _ k4; simpa using this
            refine kat_lt h1 h3 k1 k3 (lex_walk (x1 :: r1) (x2 :: r2) 0 _ _ _ _ h4 k4 hdd (by have q := SeqAt.room_in hroom; omega) (fun hb _ x r t ex => ?_) (by rw [n1, n2]) hq')
            obtain ⟨rfl, rfl⟩ := List.cons.inj ex
            have q := dataType_alike (hfirst _ _ hd)
            rw [← q] at hb
            exact dataType_tuple hb t
      · obtain ⟨fs, t1, t2, t3⟩ := each_katTups e ht
        refine kat_kind (T := dataType x₀) t1 (by omega) (fun f hf => ?_) (beq_self_eq_true _) hq
        obtain ⟨x, r, as, m1, m2⟩ := t3 f hf
        rw [← dataType_alike (hfirst x r m1)]
        exact looks_reads m2
  · by_cases hne : ∀ d ∈ ds, ∃ x r, d = .tuple (x :: r)
    · exact SortsAt.data e hal (.inl hne) hu
    · refine ⟨keys, ?_⟩
      cases ds with
      | nil => exact absurd (fun d hd => absurd hd (by simp)) hne
      | cons d0 dr =>
        refine ⟨if neT d0 = true then general' else oneType', ?_, fun h2 E Q hq => kind_mixed e ht rfl hne rfl hq⟩
        intro E x y a b Q ha hb hq
        obtain ⟨d, as, hd, ra, rfl⟩ := dataKind_inv ha
        obtain ⟨d', as', hd', rb, rfl⟩ := dataKind_inv hb
        obtain ⟨xs, rfl⟩ := ht d hd
        obtain ⟨ys, rfl⟩ := ht d' hd'
        have hdd := hal _ hd _ hd'
        split
        · exact rc_tuples (f := false) ra rb hdd (room hd) hq
        · rw [keyLt'_oneType]
          exact rc_tuples (f := true) ra rb hdd (room hd) hq
  · exact SortsAt.data e hal (.inr hn) hu
end
end DLS
namespace DL
open PySem PySem.Spec PyProof.Rows L2
theorem paired_each {α β : Type} {F : α → β → Prop} : ∀ {xs : List α} {ys : List β}, Paired F xs ys → PySem.W.EachIs (fun y x => F x y) ys xs
  | _, _, .nil => .nil
  | _, _, .cons h t => .cons h (paired_each t)
theorem each_paired {α β : Type} {F : α → β → Prop} : ∀ {xs : List α} {ys : List β}, PySem.W.EachIs (fun y x => F x y) ys xs → Paired F xs ys
  | _, _, .nil => .nil
  | _, _, .cons h t => .cons h (each_paired t)
section
variable {X : Cx} {pins : List (Addr × Obj)} {σ : L2.St} {k : Nat} {f : Addr} {fd : FuncData} {ps : List Str} {sp : Sp}
theorem room_in2 {A : Around} (hr : Room (k + 1) A) : Room k A.in1.in1 := ⟨hr.hd, by have := hr.dp; show A.depth + 3 * k + 5 < _; omega, by have := hr.un; show A.units + 1 + 1 + 16 * k + 200 < _; omega⟩
/-- a key is asked for -/
theorem key_call (F : FnOk X.prog X.w X.K X.mg X.base (L2.CX X.prog X.w) k f fd ps sp) (hr : Room k X.A.in1.in1) (hb : Binds X.K fd ps []) {H : Hp} {s : Shared} (I : Inv X pins σ H s) {x : V} {u : Value} (ru : RelV x u) {Q : VK} (h : sp [x] H Q fun _ _ _ => False) {E : Value → Shared → Prop} :
    wpAny (model X.prog X.w) X.A.in1.in1 (call (.ref f) [u]) (EP X pins σ Q) E s := by
  have rv : Vals [x] [u] := .cons ru .nil
  have hl : ([u] ++ []).length = ps.length := F.len _ _ _ _ h
  have bt := hb s [u] I.kIn hl
  refine wpAny_call (codeAny_mono (F.run X.A.in1.in1 X.stack s H ⟨[u], []⟩ [u] [x] Q _ hr I.env0.in1.in1 bt rv h) fun r s' hq => ?_)
  cases r with
  | error e => exact False.elim (law_end_any hq)
  | ok fl =>
    cases fl with
    | ret u => exact I.after hq
    | next => exact False.elim hq
    | brk => exact False.elim hq
    | cont => exact False.elim hq
where
  law_end_any {P : Program} {wd : World} {outer : List Env} {H : Hp} {s : Shared} {e : Value} {s' : Shared} (h : L2.CX P wd outer H s (fun _ _ _ => False) e s') : False := by
    obtain ⟨a, B, H', cls, d, _, _, _, _, _, _, _, h⟩ := h
    exact h
/-- the keys, one by one -/
theorem keys_loop (F : FnOk X.prog X.w X.K X.mg X.base (L2.CX X.prog X.w) k f fd ps sp) (hr : Room k X.A.in1.in1) (hb : Binds X.K fd ps []) {s : Shared} {H : Hp} {D kS : Addr} {e1 : Nat} {b : Bool} {its : List Value} {xs : List V} (hxs : Vals xs its)
    (hz : its.length ≤ sizeLine) (nk : H kS = none) (I : Inv X ((kS, seqObj "list" #[] 0) :: (D, seqObj "list" #[] e1) :: pins) σ H s) (ne : kS ≠ D) (h1 : X.s_0.heap.objs.size ≤ kS) (h2 : ∀ x c, X.env.cells.lookup x = some c → c ≠ kS) (h3 : ∀ p ∈ X.pn ++ pins, p.1 ≠ kS)
    (P : Nat → Hp → List V → Prop) (p0 : P 0 H []) (step : ∀ i x H' ks, xs[i]? = some x → P i H' ks → sp [x] H' (fun v H'' => P (i + 1) H'' (ks ++ [v])) fun _ _ _ => False)
    {R : PySem.Fin → Shared → Prop} {E : Value → Shared → Prop} (fin : ∀ s' H' ks kA e, Inv X ((kS, seqObj "list" kA e) :: (D, seqObj "list" #[] e1) :: pins) σ H' s' → Vals ks kA.toList → ks.length = xs.length → P xs.length H' ks → wpAny (model X.prog X.w) X.A.in1.in1 (PyProof.Rows.ksk_end D b its.toArray e1 (.ref kS) kA) R E s') :
    wpAny (model X.prog X.w) X.A.in1.in1 (PyProof.Rows.ksk_rest D (.ref f) b its.toArray e1 (.ref kS)) R E s := by
  have hlen := hxs.length
  unfold PyProof.Rows.ksk_rest
  refine wpAny_bind (wpAny_rule ?_)
  rw [List.forIn_toArray]
  refine wpAny_bind (PyProof.Rows.ksk_fold (fun i s' => ∃ H' ks kA e, Inv X ((kS, seqObj "list" kA e) :: (D, seqObj "list" #[] e1) :: pins) σ H' s' ∧ Vals ks kA.toList ∧ ks.length = i ∧ P i H' ks) its 0 s ⟨H, [], #[], 0, I, .nil, rfl, p0⟩ ?turn ?done)
  case turn =>
    rintro j u s' hu ⟨H', ks, kA, e, J, rv, hk, hp⟩
    simp only [Nat.zero_add] at hk hp ⊢
    have hj : j < its.length := (List.getElem?_eq_some_iff.mp hu).1
    obtain ⟨x, hx⟩ : ∃ x, xs[j]? = some x := ⟨_, List.getElem?_eq_getElem (by omega)⟩
    obtain ⟨u', hu', ru⟩ := hxs.get hx
    rw [hu] at hu'
    cases hu'
    refine wpAny_bind (wpAny_attempt (wpAny_mono (key_call F hr hb J ru (step j x H' ks hx hp) (E := fun _ _ => False)) (fun v s'' he => ?_) fun _ _ hF => hF.elim))
    obtain ⟨y, H2, J2, ry, hp2⟩ := he
    try dsimp only
    have kp := J2.pin (kS, seqObj "list" kA e) (List.mem_append_right _ (List.mem_cons_self ..))
    have dp := J2.pin (D, seqObj "list" #[] e1) (List.mem_append_right _ (List.mem_cons_of_mem _ (List.mem_cons_self ..)))
    obtain ⟨k1, k2, k3, k4, k5⟩ := kp
    obtain ⟨d1, d2, d3, d4, d5⟩ := dp
    have hsz : kA.size ≤ sizeLine := by
      have q := rv.length
      have q2 : kA.toList.length = kA.size := Array.length_toList
      omega
    have sb := Heap.SameBut.update s''.heap kS (Obj.mapSeq (·.push v))
    obtain ⟨c2, hc2⟩ : ∃ c2, (s''.heap.update kS (Obj.mapSeq (·.push v))).get? kS = some (seqObj "list" (kA.push v) c2) := ⟨_, get?_update_seq k1 (·.push v)⟩
    refine wpAny_bind (listUpdate_at k1 rfl ?_ hsz (Nat.le_trans (Nat.le_of_eq (Array.size_push ..)) (Nat.succ_le_succ hsz)))
    refine wpAny_pure ⟨rfl, H2, ks ++ [y], kA.push v, c2, ?_, ?_, ?_, hp2⟩
    · have J3 : Inv X pins σ H2 s'' := J2.pins_of fun p m => J2.pin p (List.mem_append_right _ (List.mem_cons_of_mem _ (List.mem_cons_of_mem _ m)))
      have J4 := J3.turned (h' := s''.heap.update kS (Obj.mapSeq (·.push v))) (t' := s''.toks) (it := kS) (fun c o hc eo => (sb.2 c hc).trans eo) k2 k3 (.inr h1) h2 h3
      refine J4.pins_of fun p m => ?_
      rcases List.mem_cons.mp m with rfl | m
      · exact ⟨hc2, k2, k3, k4, fun v z => by cases z⟩
      · rcases List.mem_cons.mp m with rfl | m
        · exact ⟨(sb.2 D ne.symm).trans d1, d2, d3, d4, d5⟩
        · exact J4.pin p (List.mem_append_right _ m)
    · rw [Array.toList_push]
      exact rv.append (.cons ry .nil)
    · rw [List.length_append, hk]
      rfl
  case done =>
    rintro s' ⟨H', ks, kA, e, J, rv, hk, hp⟩
    rw [Nat.zero_add, ← hlen] at hp hk
    try dsimp only
    have kp := J.pin (kS, seqObj "list" kA e) (List.mem_append_right _ (List.mem_cons_self ..))
    refine wpAny_bind (listItems_at kp.1 rfl ?_)
    exact fin s' H' ks kA e J rv hk hp
/-- sorted(xs, key=f): P follows the keys' making; in the end they read as kds -/
def rSortKey (K : PySem.W.Frag) (f : Addr) (sp : Sp) : List V → List V → Hp → VK → Prop := fun vs zs H Q => ∃ (a : Addr) (xs : List V) (P : Nat → Hp → List V → Prop), vs = [V.ref a] ∧ zs = [V.ref f] ∧ SqL K H a xs ∧ P 0 H [] ∧
  (∀ i x H' ks, xs[i]? = some x → P i H' ks → sp [x] H' (fun v H'' => P (i + 1) H'' (ks ++ [v])) fun _ _ _ => False) ∧
  ∀ H' ks, P xs.length H' ks → ∃ kds : List PyData, DpAll K H' ks kds ∧ DLS.Selves kds ∧ DLS.Keys kds ∧ (∀ d ∈ kds, d.depth ≤ 60) ∧
    ∀ p, H p = none → H' p = none → Q (.ref p) (upd H' p (.lst (((xs.zip kds).mergeSort fun z z' => !PySem.W.dataLt z'.2 z.2).map Prod.fst)))
theorem dpall_each {H : Hp} {s : Shared} (I : Inv X pins σ H s) : ∀ {ks : List V} {kds : List PyData} {us : List Value}, DpAll X.K H ks kds → Vals ks us → PySem.W.EachIs (fun u d => ∃ as, Reads s.heap u d as) us kds
  | _, _, _, .nil, .nil => .nil
  | _, _, _, .cons h t, .cons r q => .cons (Dp.reads I _ _ _ h r) (dpall_each I t q)
theorem dpall_len {K : PySem.W.Frag} {H : Hp} : ∀ {ks : List V} {kds : List PyData}, DpAll K H ks kds → ks.length = kds.length
  | _, _, .nil => rfl
  | _, _, .cons _ t => by rw [List.length_cons, List.length_cons, dpall_len t]
theorem each_zip {α β γ : Type} {R1 : α → β → Prop} : ∀ {as : List α} {bs : List β} {cs : List γ}, PySem.W.EachIs R1 as bs → bs.length = cs.length → PySem.W.EachIs (fun a (z : β × γ) => R1 a z.1) as (bs.zip cs)
  | _, _, [], .nil, _ => .nil
  | _, _, _ :: _, .cons h t, e => .cons h (each_zip t (by rw [List.length_cons, List.length_cons] at e; omega))
  | _, _, [], .cons _ _, e => by cases e
  | _, _, _ :: _, .nil, e => by cases e
theorem each_zip2 {α β γ : Type} {R1 : α → γ → Prop} : ∀ {as : List α} {bs : List β} {cs : List γ}, PySem.W.EachIs R1 as cs → bs.length = cs.length → PySem.W.EachIs (fun a (z : β × γ) => R1 a z.2) as (bs.zip cs)
  | _, [], _, .nil, _ => .nil
  | _, _ :: _, _, .cons h t, e => .cons h (each_zip2 t (by rw [List.length_cons, List.length_cons] at e; omega))
  | _, [], _, .cons _ _, e => by cases e
  | _, _ :: _, _, .nil, e => by cases e
theorem vals_each : ∀ {out : List Value} {l : List (V × PyData)}, PySem.W.EachIs (fun v (z : V × PyData) => RelV z.1 v) out l → Vals (l.map Prod.fst) out
  | _, _, .nil => .nil
  | _, _, .cons h t => .cons h (vals_each t)
theorem call_sortedKey (F : FnOk X.prog X.w X.K X.mg X.base (L2.CX X.prog X.w) k f fd ps sp) (hr : Room (k + 1) X.A) (hb : Binds X.K fd ps []) : CallRK X (.builtin "sorted") [Str.ofString "key"] (rSortKey X.K f sp) := by
  intro pins s σ H vs zs us ws Q I r rz h
  obtain ⟨a, xs, P, rfl, rfl, hs, p0, step, fin⟩ := h
  obtain rfl := Vals.ref1 r
  obtain ⟨w1, rfl, e1⟩ := vals1 rz
  obtain rfl : w1 = Value.ref f := e1
  obtain ⟨its, rv, hl, hz⟩ := I.list hs
  have hz' : its.length ≤ sizeLine := by rw [← rv.length]; exact hz
  have hr2 := room_in2 hr
  show wpAny (model X.prog X.w) X.A (call (.builtin "sorted") [.ref a] [(Str.ofString "key", .ref f)]) _ _ s
  refine PySem.W.sorted_of_sort hl.isList hz' (PyProof.Rows.ksk_s1 _ _) (fun _ => PyProof.Rows.ksk_l1 _ _) fun E' => ?_
  rw [PyProof.Rows.ksk_t1]
  obtain ⟨D, hD⟩ : ∃ D, D = s.heap.objs.size + 1 := ⟨_, rfl⟩
  rw [← hD]
  have cD : (PySem.W.copyHeap s.heap its).get? D = some (seqObj "list" its.toArray 0) := by rw [hD]; exact PySem.W.copyHeap_at s.heap its
  have cO : ∀ b o, s.heap.get? b = some o → (PySem.W.copyHeap s.heap its).get? b = some o := fun b o e => PySem.W.copyHeap_old e
  generalize PySem.W.copyHeap s.heap its = hc at cD cO
  have lD : D < hc.objs.size := Heap.lt_size cD
  obtain ⟨ep, ho1⟩ : ∃ ep, (hc.update D (Obj.mapSeq fun _ => (#[] : Array Value))).get? D = some (seqObj "list" #[] ep) := ⟨_, get?_update_seq cD fun _ => #[]⟩
  have sb := Heap.SameBut.update hc D (Obj.mapSeq fun _ => (#[] : Array Value))
  unfold PyProof.Rows.ksk_tree
  refine wpAny_bind (listItems_at cD rfl ?_)
  refine wpAny_bind (listUpdate_at cD rfl ?_ (by rw [List.size_toArray]; exact hz') (Nat.zero_le _))
  refine wpAny_bind (seqEpoch_at ho1 rfl ?_)
  refine wpAny_bind (wpAny_newTuple ?_ (by show its.length ≤ _; exact hz'))
  refine wpAny_bind (wpAny_newList ?_ (Nat.zero_le _))
  refine wpAny_holding ?_
  obtain ⟨kS, hkS⟩ : ∃ kS, kS = ((hc.update D (Obj.mapSeq fun _ => (#[] : Array Value))).push (seqObj "tuple" its.toArray 0)).objs.size := ⟨_, rfl⟩
  have eS : kS = hc.objs.size + 1 := by rw [hkS, size_push', Heap.size_update]
  have hg1 : (((hc.update D (Obj.mapSeq fun _ => (#[] : Array Value))).push (seqObj "tuple" its.toArray 0)).push (seqObj "list" #[] 0)).get? kS = some (seqObj "list" #[] 0) := by rw [hkS]; exact Heap.get?_push_size _ rfl
  have hg2 : (((hc.update D (Obj.mapSeq fun _ => (#[] : Array Value))).push (seqObj "tuple" its.toArray 0)).push (seqObj "list" #[] 0)).get? D = some (seqObj "list" #[] ep) := Heap.get?_push_of_some _ (Heap.get?_push_of_some _ ho1)
  have hg3 : ∀ b o, s.heap.get? b = some o → (((hc.update D (Obj.mapSeq fun _ => (#[] : Array Value))).push (seqObj "tuple" its.toArray 0)).push (seqObj "list" #[] 0)).get? b = some o := fun b o e => by
    have nb : b ≠ D := Nat.ne_of_lt (Nat.lt_of_lt_of_le (Heap.lt_size e) (by omega))
    exact Heap.get?_push_of_some _ (Heap.get?_push_of_some _ ((sb.2 b nb).trans (cO b o e)))
  show wpAny (model X.prog X.w) X.A.in1.in1 (PyProof.Rows.ksk_rest D (.ref f) false its.toArray ep (.ref ((hc.update D (Obj.mapSeq fun _ => (#[] : Array Value))).push (seqObj "tuple" its.toArray 0)).objs.size)) _ E' { s with heap := ((hc.update D (Obj.mapSeq fun _ => (#[] : Array Value))).push (seqObj "tuple" its.toArray 0)).push (seqObj "list" #[] 0) }
  rw [← hkS]
  generalize ((hc.update D (Obj.mapSeq fun _ => (#[] : Array Value))).push (seqObj "tuple" its.toArray 0)).push (seqObj "list" #[] 0) = hg at hg1 hg2 hg3 ⊢
  have I1 : Inv X pins σ H { s with heap := hg } := I.kept (t' := s.toks) hg3
  have nD : H D = none := I.hok.fresh (by omega)
  have nS : H kS = none := I.hok.fresh (by omega)
  have lL := I.lt
  have sz0 := I.sz
  have lD2 : s.heap.objs.size ≤ D := by omega
  have lS2 : s.heap.objs.size ≤ kS := by omega
  have I2 : Inv X ((kS, seqObj "list" #[] 0) :: (D, seqObj "list" #[] ep) :: pins) σ H { s with heap := hg } := I1.pins_of fun p m => by
    rcases List.mem_cons.mp m with rfl | m
    · exact ⟨hg1, nS, Nat.ne_of_gt (Nat.lt_of_lt_of_le lL lS2), I.nofs (by omega), fun v z => by cases z⟩
    · rcases List.mem_cons.mp m with rfl | m
      · exact ⟨hg2, nD, Nat.ne_of_gt (Nat.lt_of_lt_of_le lL lD2), I.nofs (by omega), fun v z => by cases z⟩
      · exact I1.pin p (List.mem_append_right _ m)
  have cel : ∀ x c, X.env.cells.lookup x = some c → c < s.heap.objs.size := fun x c e => by
    obtain ⟨v, o, q, _⟩ := I.cell x c e
    exact Heap.lt_size q
  have pinlt : ∀ p ∈ X.pn ++ pins, p.1 < s.heap.objs.size := fun p m => Heap.lt_size (I.pin p m).1
  refine keys_loop F hr2 hb rv hz' nS I2 (Nat.ne_of_gt (by omega)) (Nat.le_trans sz0 lS2) (fun x c e => Nat.ne_of_lt (Nat.lt_of_lt_of_le (cel x c e) lS2)) (fun p m => Nat.ne_of_lt (Nat.lt_of_lt_of_le (pinlt p m) lS2)) P p0 step fun s' H' ks kA e J rk hk hp => ?_
  obtain ⟨kds, hdp, hself, hkeys, hdep, q⟩ := fin H' ks hp
  obtain ⟨k1, k2, k3, k4, k5⟩ := J.pin (kS, seqObj "list" kA e) (List.mem_append_right _ (List.mem_cons_self ..))
  obtain ⟨d1, d2, d3, d4, d5⟩ := J.pin (D, seqObj "list" #[] ep) (List.mem_append_right _ (List.mem_cons_of_mem _ (List.mem_cons_self ..)))
  obtain ⟨G, g1, g2⟩ := L2.restrict s'.heap fun b => decide (b ≠ kS)
  have gS : G.get? kS = none := g2 kS (by simp)
  have gk : ∀ b, b ≠ kS → G.get? b = s'.heap.get? b := fun b hb => g1 b (by simpa using hb)
  have kp : PySem.W.KeepsBut D G s'.heap := fun b o _ e => by
    have nb : b ≠ kS := fun z => by
      rw [z, gS] at e
      cases e
    rw [gk b nb] at e
    exact e
  have er := dpall_each J hdp rk
  have ls := rv.length
  have lk := dpall_len hdp
  have lkA : kA.toList.length = kA.size := Array.length_toList
  have lr := rk.length
  have S := DLS.sorts_of (prog := X.prog) (w := X.w) (A := X.A.in1.in1) (s := s') er hself hkeys fun d m => by
    have := hdep d m
    have := hr.un
    show X.A.units + 1 + 1 + _ < _
    omega
  refine PySem.W.keyH_end (κ := PySem.W.dataKind s'.heap kds) (h₁ := G) kp gS k1 d1 (Nat.ne_of_gt (by omega)) S (by omega) hz' fun h' tk c kb hd' => ⟨rfl, ?_⟩
  have ek : PySem.W.EachIs (fun v d => (PySem.W.dataKind s'.heap kds).keyOf v = some (PySem.W.keyToks d)) kA.toList kds := (PySem.W.each_mem er).mono fun v d ⟨⟨as, rr⟩, m⟩ => DLS.kd_some hself m rr
  have lz : xs.length = kds.length := by omega
  have es := PySem.W.sortVals_each (κ := PySem.W.dataKind s'.heap kds) (rev := false) (fun z : V × PyData => PySem.W.keyToks z.2) (each_zip (cs := kds) (paired_each rv) lz) (each_zip2 (bs := xs) ek lz)
  generalize PySem.W.sortVals (PySem.W.dataKind s'.heap kds) false kA.toList its = out at es hd'
  have es' : PySem.W.EachIs (fun v (z : V × PyData) => RelV z.1 v) out ((xs.zip kds).mergeSort fun z z' => !PySem.W.dataLt z'.2 z.2) := es
  have vo : Vals (((xs.zip kds).mergeSort fun z z' => !PySem.W.dataLt z'.2 z.2).map Prod.fst) out := vals_each es'
  have hlen : (((xs.zip kds).mergeSort fun z z' => !PySem.W.dataLt z'.2 z.2).map Prod.fst).length ≤ sizeLine := by
    rw [List.length_map, List.length_mergeSort, List.length_zip]
    omega
  have q2 := q D nD d2
  generalize (((xs.zip kds).mergeSort fun z z' => !PySem.W.dataLt z'.2 z.2).map Prod.fst) = zz at vo hlen q2
  have J3 : Inv X pins σ H' s' := J.pins_of fun p m => J.pin p (List.mem_append_right _ (List.mem_cons_of_mem _ (List.mem_cons_of_mem _ m)))
  have kept : ∀ b o, b ≠ D → b ≠ kS → s'.heap.get? b = some o → h'.get? b = some o := fun b o n1 n2 eo => kb b o n1 (by rw [gk b n2]; exact eo)
  have neD : ∀ b u, H' b = some u → b ≠ D := fun b u e z => by rw [z, d2] at e; cases e
  have neS : ∀ b u, H' b = some u → b ≠ kS := fun b u e z => by rw [z, k2] at e; cases e
  refine ⟨.ref D, upd H' D (.lst zz), ?_, rfl, by rw [← hD] at *; exact q2⟩
  refine J3.step (ch := [kS, D]) (g' := s'.gens) (d' := s'.drawn) (t' := tk) (fun b m => ?_) (fun b o _ _ hc eo _ => ?_) (fun b o _ _ hc eo _ => ⟨o.slots, ?_⟩) (fun b o hc _ n => ?_) (fun b o hc eo => ⟨o, ?_⟩) (fun b ys e => ?_) (fun b o u e => ?_) (fun b pz e => ⟨#[], ?_⟩) (fun m hm => ?_) (fun b u e => ?_) J3.bare
  · rcases List.mem_cons.mp m with rfl | m
    · exact ⟨.inr (Nat.le_trans sz0 lS2), k3, fun x c e => Nat.ne_of_lt (Nat.lt_of_lt_of_le (cel x c e) lS2), fun p m => Nat.ne_of_lt (Nat.lt_of_lt_of_le (pinlt p m) lS2)⟩
    · obtain rfl := List.mem_singleton.mp m
      exact ⟨.inr (Nat.le_trans sz0 lD2), d3, fun x c e => Nat.ne_of_lt (Nat.lt_of_lt_of_le (cel x c e) lD2), fun p m => Nat.ne_of_lt (Nat.lt_of_lt_of_le (pinlt p m) lD2)⟩
  · exact kept b o (fun z => hc (by simp [z])) (fun z => hc (by simp [z])) eo
  · exact kept b o (fun z => hc (by simp [z])) (fun z => hc (by simp [z])) eo
  · rw [upd_ne (fun z => hc (by simp [z]))]
    exact n
  · exact kept b o (fun z => hc (by simp [z])) (fun z => hc (by simp [z])) eo
  · rw [upd_ne (neD _ _ e)]
    exact e
  · rw [upd_ne (neD _ _ e)]
    exact e
  · rw [upd_ne (neD _ _ e), e]
    simp
  · obtain ⟨o, es, ep, ho, rr⟩ := hm
    exact ⟨o, es, ep, kept _ o (Ne.symm d3) (Ne.symm k3) ho, rr⟩
  · by_cases hb : b = D
    · subst hb
      rw [upd_same] at e
      cases e
      exact ⟨hlen, out, c, vo, hd'⟩
    · rw [upd_ne hb] at e
      have st := J3.hok b u e
      refine st.stay (fun z v hz qz => kept z v ?_ ?_ qz) (fun z qz => ?_) fun z _ qz => ?_
      · rcases hz with z1 | z1
        · rw [z1]; exact hb
        · exact neD _ _ z1
      · rcases hz with z1 | z1
        · rw [z1]; exact neS _ _ e
        · exact neS _ _ z1
      · rw [upd_ne (neD _ _ qz)]
        exact qz
      · rw [upd_ne (neD _ _ qz)]
        exact qz
end
end DL
namespace DLR
open PySem PySem.Spec PyProof.Rows RT
/-! ### tuple(reversed(a tuple)) -/
theorem no_len : typeLookup (.type "reversed") "__len__" = pure none := by
  rw [typeLookup_type, builtinLookup_eq_fast]
  kernel_rfl
theorem a_hint : typeLookup (.type "reversed") "__length_hint__" = pure (some (.builtin "reversed.__length_hint__")) := by
  rw [typeLookup_type, builtinLookup_eq_fast]
  kernel_rfl
theorem slot_hint : Slot "reversed" "__length_hint__" "reversed.__length_hint__" :=
  .of (owner := "reversed") (n := "__length_hint__") (by rw [typeLookup_type, builtinLookup_eq_fast]; kernel_rfl) (by decide +kernel) (by decide +kernel) (by decide +kernel)
    (by first | exact .inl (by decide +kernel) | exact .inr (by decide +kernel)) (by rw [isSubtype_type]; kernel_rfl)
theorem entry_hint : entryFor table "reversed.__length_hint__" = some Builtin.«reversed.__length_hint__» := entryFor_of_tree (by kernel_rfl)
theorem args_hint (a : Value) : argsOk "reversed.__length_hint__" ⟨[a], []⟩ := by
  unfold argsOk
  rw [signature?_of (id := "reversed.__length_hint__") (n := "__length_hint__".toList.reverse) (o := ['d', 'e', 's', 'r', 'e', 'v', 'e', 'r']) (by kernel_rfl) owner_rt]
  kernel_rfl
section
variable {prog : Program} {w : World} {A : Around} {E : Value → Shared → Prop} {s : Shared}
theorem call_hint {it t : Addr} {us : Array Value} {Q : Value → Shared → Prop} (hi : IsRt s.heap it t ((us.size : Int) - 1)) (ht : IsTup s.heap t us)
    (hl : ∀ (A : Around) (E : Value → Shared → Prop) (Q : Value → Shared → Prop), Q (.int us.size (s.toks + 1)) { s with toks := s.toks + 1 + 1 } → wpAny (model prog w) A (call (.builtin "len") [.ref t]) Q E s)
    (hQ : ∀ tk k, Q (.int us.size k) { s with toks := tk }) : wpAny (model prog w) A (call (.builtin "reversed.__length_hint__") [.ref it]) Q E s := by
  obtain ⟨o, ho, hc, hd⟩ := id hi
  refine wpAny_call_entry slot_hint hi.typeIs entry_hint ?_ (args_hint _)
  unfold Builtin.«reversed.__length_hint__»
  refine wpAny_bind (wpAny_of_eq (a := Value.ref it) rfl ?_)
  try dsimp only
  refine wpAny_bind (wpAny_field ho hd (x := .ref t) rfl ?_)
  try dsimp only
  rw [if_neg (by simp)]
  refine wpAny_bind (hl _ _ _ ?_)
  refine wpAny_bind (wpAny_of_eq (a := some ((us.size : Nat) : Int)) rfl ?_)
  try dsimp only
  refine wpAny_bind (wpAny_field (s := { s with toks := s.toks + 1 + 1 }) ho hd (x := rawInt ((us.size : Int) - 1)) rfl ?_)
  show wpAny _ _ (if ((us.size : Nat) : Int) < ((us.size : Int) - 1) + 1 then _ else _) _ _ _
  rw [if_neg (by omega)]
  refine wpAny_bind (wpAny_mkInt ?_)
  have e : (us.size : Int) - 1 + 1 = (us.size : Int) := by omega
  rw [e]
  exact wpAny_pure ⟨_, rfl, hQ _ _⟩
end
theorem rt_walk {prog : Program} {w : World} {A : Around} (hh : A.handled = none) (it t : Addr) (hne : t ≠ it) (us : Array Value) (hz : us.size ≤ sizeLine) :
    Walks prog w A it [it, t] [it] us.size (fun i v => us[us.size - 1 - i]? = some v) (fun i h => i ≤ us.size ∧ IsRt h it t ((us.size : Int) - 1 - (i : Int)) ∧ IsTup h t us) where
  sub := fun b m => by
    rw [List.mem_singleton.mp m]
    exact List.mem_cons_self ..
  frame := fun _ _ _ x kp => ⟨x.1, x.2.1.at fun o e => kp it (by simp) o e, by
    obtain ⟨o, ho, r⟩ := x.2.2
    exact ⟨o, kp t (by simp) o ho, r⟩⟩
  item := fun i s Q E hi x hQ => by
    have e1 : (us.size : Int) - 1 - (i : Int) = ((us.size - 1 - i : Nat) : Int) := by omega
    have x1 := x.2.1
    rw [e1] at x1
    have hx : us[us.size - 1 - i]? = some (us[us.size - 1 - i]'(by omega)) := Array.getElem?_eq_getElem (by omega)
    refine next_rt_item x1 x.2.2 hx hz fun g x2 sb => ?_
    have e2 : ((us.size - 1 - i : Nat) : Int) - 1 = (us.size : Int) - 1 - ((i + 1 : Nat) : Int) := by omega
    rw [e2] at x2
    refine hQ _ g (s.toks + 1) hx ⟨hi, x2, ?_⟩ fun b o m eo => sb.extBut b o (fun z => m (by simp [z])) eo
    obtain ⟨o, ho, r⟩ := x.2.2
    exact ⟨o, (sb.2 t hne).trans ho, r⟩
  done := fun s Q E x hQ => by
    have e1 : (us.size : Int) - 1 - (us.size : Int) = -1 := by omega
    have x1 := x.2.1
    rw [e1] at x1
    exact next_rt_end hh x1 fun g eb => hQ g s.toks fun b o m eo => eb b o (fun z => m (by simp [z])) eo
  self := fun _ _ _ _ x hQ => iter_rt x.2.1 hQ
section
variable {prog : Program} {w : World} {A : Around} {E : Value → Shared → Prop} {s : Shared}
theorem room_or {M : Model} {β : Type} {c : Bool} {S : Addr} {m : Sem β} {P : β → Shared → Prop} (hS : s.heap.get? S = some { cls := .type "list", data := .seq ([] : List Value).toArray })
    (h : ∀ (hx : Heap) (c0 : Nat), (∀ b o, b ≠ S → s.heap.get? b = some o → hx.get? b = some o) → hx.get? S = some { cls := .type "list", dict := none, data := .seq #[] c0, slots := #[] } → wpAny M A m P E { s with heap := hx }) :
    wpAny M A (if c = true then (do rule "list.extend.makes-room"; Builtin.List.listTouch (.ref S); m) else m) P E s := by
  cases c with
  | false => exact h s.heap 0 (fun _ _ _ e => e) hS
  | true =>
    rw [if_pos rfl]
    refine wpAny_bind (wpAny_rule ?_)
    unfold Builtin.List.listTouch
    obtain ⟨c1, k1⟩ : ∃ c1, (s.heap.update S (Obj.mapSeq (·.push .none))).get? S = some (seqObj "list" #[.none] c1) := ⟨_, get?_update_seq (xs := #[]) (n := 0) hS (·.push .none)⟩
    obtain ⟨c2, k2⟩ : ∃ c2, ((s.heap.update S (Obj.mapSeq (·.push .none))).update S (Obj.mapSeq (·.pop))).get? S = some (seqObj "list" #[] c2) := ⟨_, get?_update_seq k1 (·.pop)⟩
    refine wpAny_bind (wpAny_bind (listUpdate_at (xs := #[]) (n := 0) hS rfl ?_ (Nat.zero_le _) (by show (1 : Nat) ≤ _; rw [sizeLine_eq]; decide)))
    refine listUpdate_at k1 rfl ?_ (by show (1 : Nat) ≤ _; rw [sizeLine_eq]; decide) (by show (0 : Nat) ≤ _; exact Nat.zero_le _)
    have s1 := Heap.SameBut.update s.heap S (Obj.mapSeq (·.push Value.none))
    have s2 := Heap.SameBut.update (s.heap.update S (Obj.mapSeq (·.push Value.none))) S (Obj.mapSeq (·.pop))
    exact h _ c2 (fun b o hb e => (s2.2 b hb).trans ((s1.2 b hb).trans e)) k2
theorem gather {it t : Addr} {us : Array Value} {Q : List Value → Shared → Prop} (hh : A.handled = none) (hi : IsRt s.heap it t ((us.size : Int) - 1)) (ht : IsTup s.heap t us) (hne : t ≠ it) (hz : us.size ≤ sizeLine) (hlen : ∀ (s : Shared), IsTup s.heap t us → ∀ (A : Around) (E : Value → Shared → Prop) (Q : Value → Shared → Prop), Q (.int us.size (s.toks + 1)) { s with toks := s.toks + 1 + 1 } → wpAny (model prog w) A (call (.builtin "len") [.ref t]) Q E s)
    (hQ : ∀ (g : Heap) (tk : Nat) (acc : Array Value), (∀ b o, b ≠ it → s.heap.get? b = some o → g.get? b = some o) → ItemsOf (fun i v => us[us.size - 1 - i]? = some v) acc us.size → Q acc.toList { s with heap := g, toks := tk }) :
    wpAny (model prog w) A (collect (.ref it)) Q E s := by
  have W := (rt_walk (prog := prog) (w := w) (A := A.in1) hh it t hne us hz).toS
  obtain ⟨o1, ho1, _⟩ := id hi
  obtain ⟨o2, ho2, _⟩ := id ht
  have n1 : s.heap.objs.size ≠ it := Nat.ne_of_gt (Heap.lt_size ho1)
  have n2 : s.heap.objs.size ≠ t := Nat.ne_of_gt (Heap.lt_size ho2)
  have n3 : s.heap.objs.size ∉ [it, t] := by simp only [List.mem_cons, List.not_mem_nil, or_false, not_or]; exact ⟨n1, n2⟩
  unfold collect
  refine wpAny_bind (wpAny_runValue (codeAny_builtin F.entry_proto_collect ?_))
  rw [Around.under_plainId F.plain_proto_collect _]
  show wpAny _ A.in1 (newList [] >>= fun z => again (.builtin "list.__iadd__" ⟨[z, .ref it], []⟩)) _ _ s
  refine wpAny_bind (wpAny_newObj_type ?_)
  refine wpAny_pure ⟨plainId_quiet F.plain_list_iadd _, codeAny_builtin F.entry_list_iadd ?_⟩
  rw [Around.under_plainId F.plain_list_iadd _]
  have g0 : (s.heap.push { cls := .type "list", data := .seq ([] : List Value).toArray }).get? s.heap.objs.size = some { cls := .type "list", data := .seq ([] : List Value).toArray } := Heap.get?_push_size _ rfl
  have g1 : IsRt (s.heap.push { cls := .type "list", data := .seq ([] : List Value).toArray }) it t ((us.size : Int) - 1) := hi.at fun o e => Heap.get?_push_of_some _ e
  have g2 : IsTup (s.heap.push { cls := .type "list", data := .seq ([] : List Value).toArray }) t us := by
    obtain ⟨o, ho, r⟩ := ht
    exact ⟨o, Heap.get?_push_of_some _ ho, r⟩
  have hT : ({ s with heap := s.heap.push { cls := .type "list", data := .seq ([] : List Value).toArray } } : Shared).TypeIs (.ref it) "reversed" := IsRt.typeIs (s := { s with heap := s.heap.push { cls := .type "list", data := .seq ([] : List Value).toArray } }) g1
  have h1 : Builtin.List.listSameRef (.ref s.heap.objs.size) (.ref it) = false := by simp [Builtin.List.listSameRef, n1]
  show wpAny _ A.in1 (Builtin.List.listExtendWith (.ref s.heap.objs.size) (.ref it) (.ref s.heap.objs.size)) _ _ _
  unfold Builtin.List.listExtendWith
  refine wpAny_bind (wpAny_typeOf hT ?_)
  rw [if_neg (by rw [h1]; decide)]
  refine wpAny_bind (iter_rt (s := { s with heap := s.heap.push { cls := .type "list", data := .seq ([] : List Value).toArray } }) g1 ?_)
  refine wpAny_bind (wpAny_holding ?_)
  unfold Builtin.List.listLengthHint
  refine wpAny_bind (wpAny_specialOf hT no_len ?_)
  show wpAny _ A.in1 (specialOf (Value.ref it) (Str.ofString "__length_hint__") >>= _) _ _ _
  refine wpAny_bind (wpAny_specialOf hT a_hint ?_)
  generalize hid : ("reversed.__length_hint__" : String) = id0
  wp_delta
  rw [show splitId id0 = some ("reversed", "__length_hint__") from by subst hid; decide +kernel]
  subst hid
  refine wpAny_bind (wpAny_isInstance (b := true) hT (by rw [isSubtype_type]; kernel_rfl) ?_)
  rw [if_neg (by decide)]
  try dsimp only
  rw [if_neg (by decide +kernel)]
  refine wpAny_bind (wpAny_rule ?_)
  refine wpAny_bind (wpAny_of_eq (a := (Value.builtin "reversed.__length_hint__", [Value.ref it])) (by first | rfl | kernel_rfl) ?_)
  try dsimp only
  refine wpAny_bind (wpAny_attempt (call_hint (s := { s with heap := s.heap.push { cls := .type "list", data := .seq ([] : List Value).toArray } }) g1 g2 (fun A E Q k => hlen _ g2 A E Q k) fun tk kk => ?_))
  try dsimp only
  have ea : asInt? (Value.int ((us.size : Nat) : Int) kk) = pure (some ((us.size : Nat) : Int)) := rfl
  rw [ea, pure_bind]
  try dsimp only
  have h16 : (us.size : Int) ≤ 16777216 := by
    rw [sizeLine_eq] at hz
    omega
  have hfit : Builtin.List.listFitsIndex (us.size : Int) = true := by
    unfold Builtin.List.listFitsIndex
    rw [Bool.and_eq_true]
    exact ⟨decide_eq_true (Int.le_trans (show -(2 ^ 63 : Int) ≤ 0 by decide) (Int.natCast_nonneg _)), decide_eq_true (Int.lt_of_le_of_lt h16 (by decide))⟩
  rw [hfit]
  rw [if_neg (by decide), if_neg (by omega)]
  have hlong : Builtin.List.listTooLong (us.size : Int).toNat = false := by
    unfold Builtin.List.listTooLong
    exact decide_eq_false (by rw [Int.toNat_natCast]; omega)
  rw [hlong]
  rw [if_neg (by decide)]
  refine wpAny_pure ?_
  have e0 : ((us.size : Nat) : Int) - 1 - ((0 : Nat) : Int) = (us.size : Int) - 1 := by omega
  refine room_or g0 fun hx c0 hk hS => ?_
  have e0 : ((us.size : Nat) : Int) - 1 - ((0 : Nat) : Int) = (us.size : Int) - 1 := by omega
  have g3 : IsRt hx it t ((us.size : Int) - 1) := g1.at fun o e => hk it o (Ne.symm n1) e
  have g4 : IsTup hx t us := by
    obtain ⟨o, ho, r⟩ := g2
    exact ⟨o, hk t o (Ne.symm n2) ho, r⟩
  refine wpAny_pure ⟨plainId_quiet F.plain_extend_loop _, codeAny_extend_loopS W hz _ n3 _ us.size 0 _ _ _ rfl (Nat.zero_le _) ⟨Nat.zero_le _, by rw [e0]; exact g3, g4⟩ hS (ItemsOf.nil _) fun s2 acc c hm hS2 hacc => ?_⟩
  show wpAny _ A (load s.heap.objs.size >>= _) _ _ s2
  refine wpAny_bind (wpAny_load hS2 ?_)
  refine wpAny_pure ?_
  rw [Moved.eq_with hm]
  refine hQ s2.heap s2.toks acc (fun b o hb e => hm.heap b o (fun m => ?_) (hk b o (fun z => absurd (Heap.lt_size e) (by rw [z]; exact Nat.lt_irrefl _)) (Heap.get?_push_of_some _ e))) hacc
  rcases List.mem_cons.mp m with z | m
  · exact absurd (Heap.lt_size e) (by rw [z]; exact Nat.lt_irrefl _)
  · exact hb (List.mem_singleton.mp m)
theorem make_rev {it t : Addr} {us : Array Value} {Q : Value → Shared → Prop} (hh : A.handled = none) (hi : IsRt s.heap it t ((us.size : Int) - 1)) (ht : IsTup s.heap t us) (hne : t ≠ it) (hz : us.size ≤ sizeLine)
    (h : ∀ (g : Heap) (tk : Nat) (acc : Array Value), (∀ b o, b ≠ it → s.heap.get? b = some o → g.get? b = some o) → ItemsOf (fun i v => us[us.size - 1 - i]? = some v) acc us.size → Q (.ref g.objs.size) { s with heap := g.push { cls := .type "tuple", data := .seq acc }, toks := tk }) :
    codeAny (model prog w) A (.call (.builtin "tuple.__new__") ⟨[.type "tuple", .ref it], []⟩) (wants Q E) s := by
  refine codeAny_of_tree ?_
  show wpAny _ A.in1 (do checkBuiltinCall "tuple.__new__" ⟨[.type "tuple", .ref it], []⟩; again (.builtin "tuple.__new__" ⟨[.type "tuple", .ref it], []⟩)) _ _ s
  refine wpAny_bind (wpAny_of_eq (F.newCall_tuple_1 _) (wpAny_pure ⟨plainId_quiet F.plain_tuple_new _, codeAny_builtin F.entry_tuple_new ?_⟩))
  rw [Around.under_plainId F.plain_tuple_new _]
  have q1 := sub_tuple_self
  have q2 := init_tuple_lookup
  have q3 := madeHere_tuple
  have hT : s.TypeIs (.ref it) "reversed" := hi.typeIs
  have hh1 : A.in1.handled = none := hh
  have hlen : ∀ (s : Shared), IsTup s.heap t us → ∀ (A : Around) (E : Value → Shared → Prop) (Q : Value → Shared → Prop), Q (.int us.size (s.toks + 1)) { s with toks := s.toks + 1 + 1 } → wpAny (model prog w) A (call (.builtin "len") [.ref t]) Q E s := fun s x A E Q k =>
    len_tuple x (Int.lt_of_le_of_lt (show (us.size : Int) ≤ 16777216 by rw [sizeLine_eq] at hz; omega) (by decide)) k
  wp_walk using wpAny_typeOf hT, gather (A := A.in1) hh1 hi ht hne hz hlen
  intro g tk acc hk hacc
  show wpAny _ _ (Builtin.Tuple.tupleExact acc.toList.toArray >>= fun v => ret v) _ _ _
  unfold Builtin.Tuple.tupleExact
  refine wpAny_bind (wpAny_newObj_type ?_ (by show acc.toList.toArray.size ≤ sizeLine; simp only [Array.toArray_toList]; rw [hacc.1]; exact hz))
  refine wpAny_pure ?_
  rw [Array.toArray_toList]
  exact h g tk acc hk hacc
theorem call_rev {it t : Addr} {us : Array Value} {Q : Value → Shared → Prop} (hh : A.handled = none) (hi : IsRt s.heap it t ((us.size : Int) - 1)) (ht : IsTup s.heap t us) (hne : t ≠ it) (hz : us.size ≤ sizeLine)
    (hQ : ∀ (g : Heap) (tk : Nat) (acc : Array Value), (∀ b o, b ≠ it → s.heap.get? b = some o → g.get? b = some o) → ItemsOf (fun i v => us[us.size - 1 - i]? = some v) acc us.size → Q (.ref g.objs.size) { s with heap := g.push { cls := .type "tuple", data := .seq acc }, toks := tk }) :
    wpAny (model prog w) A (call (.type "tuple") [.ref it]) Q E s := by
  refine callType_codes (Q₁ := fun obj s₁ => s₁.TypeIs obj "tuple" ∧ Q obj s₁) F.called_tuple (F.typeCall_tuple_1 _) F.entry_object_init (make_rev (A := A.in1) hh hi ht hne hz fun g tk acc hk hacc => ⟨⟨_, Heap.get?_push_size _ rfl, rfl⟩, hQ g tk acc hk hacc⟩) fun obj s₁ h₁ => ?_
  exact ⟨h₁.1, F.args_object_init_2 obj _, object_init_meets F.called_tuple.init.lookup F.called_tuple.made (by decide) prog w A.in1 _ s₁ ⟨h₁.1, rfl, h₁.2⟩⟩
end
end DLR
namespace DL
open PySem PySem.Spec PyProof.Rows L2 RT
section
variable {X : Cx}
def tRevT (K : PySem.W.Frag) (te : TE) : TE := fun σ H Q => te σ H fun v H1 => ∃ (a : Addr) (xs : List V), v = .ref a ∧ SqT K H1 a xs ∧ ∀ q, H1 q = none → Q (.ref q) (upd H1 q (.tup xs.reverse))
theorem pe_revT {e : Expr} {te : TE} {p p2 pos pos2 : Pos} (hc : X.calm = true) (hg : Gl X "tuple") (hm : X.mg "tuple" = none) (hg2 : Gl X "reversed") (hm2 : X.mg "reversed" = none) (he : PE X e te)
    (hs : starEach [e] X.env = (false, eval e X.env) :: starEach [] X.env := by rfl)
    (hs2 : starEach [.Call (.Name "reversed" p2) [e] [] pos2] X.env = (false, eval (.Call (.Name "reversed" p2) [e] [] pos2) X.env) :: starEach [] X.env := by rfl) :
    PE X (.Call (.Name "tuple" p) [.Call (.Name "reversed" p2) [e] [] pos2] [] pos) (tRevT X.K te) := by
  refine ⟨fun pins s σ H Q I h => ?_⟩
  refine Call_ (ld_blt I hg hm boot_tuple (PyProof.Rows.callWith_type1 (args_cons (Call_ (ld_blt I hg2 hm2 PyProof.Rows.boot_reversed (PyProof.Rows.callWith_type1 (args_cons (thn (he.run pins s σ H _ I h) fun u s1 ⟨v, H1, I1, r1, q1⟩ => args_nil ?_) hs) hs rfl))) hs2) hs2 rfl))
  obtain ⟨a, xs, ev, hq, q⟩ := q1
  subst ev
  obtain rfl : u = Value.ref a := r1
  obtain ⟨its, rv, ht, hz⟩ := I1.tuple hq
  have hl := rv.length
  have hn := line63
  have hz2 : its.toArray.size ≤ sizeLine := by rw [List.size_toArray, ← hl]; exact hz
  refine call_reversed_tup ht (fun A E Q k => len_tuple ht (by simp only [List.size_toArray] <;> omega) k) (args_nil ?_)
  have I2 : Inv X pins σ H1 { s1 with heap := s1.heap.push (rtObj a ((its.toArray.size : Int) - 1)), toks := s1.toks + 1 + 1 } := I1.kept (t' := s1.toks + 1 + 1) fun b o e => Heap.get?_push_of_some _ e
  obtain ⟨f0, f1, f2, f3, f4, f5⟩ := I1.fpOk (H' := H1) (b := s1.heap.objs.size) (Nat.le_refl _) (I1.hok.fresh (Nat.le_refl _))
  obtain ⟨ol, hol, r2⟩ := id ht
  have hne : a ≠ s1.heap.objs.size := Nat.ne_of_lt (Heap.lt_size hol)
  refine DLR.call_rev (s := { s1 with heap := s1.heap.push (rtObj a ((its.toArray.size : Int) - 1)), toks := s1.toks + 1 + 1 }) (I1.ok.hd hc) ⟨_, Heap.get?_push_size _ rfl, rfl, rfl⟩ ⟨ol, Heap.get?_push_of_some _ hol, r2⟩ hne hz2 fun g tk acc hk hi => ?_
  have I3 : Inv X pins σ H1 { s1 with heap := g, toks := tk } := I2.turned (t' := tk) (fun b o hb e => hk b o hb e) f0 f1 f3 f4 f5
  refine ⟨.ref g.objs.size, upd H1 g.objs.size (.tup xs.reverse), I3.laid (t' := tk) (fun c o e => Heap.get?_push_of_some _ e) (Nat.le_refl _) (show ObjOk X.prog X.w _ _ _ (.tup xs.reverse) from ⟨by rw [List.length_reverse]; exact hz, acc.toList, vals_rev rv hi, ?_⟩), rfl, q _ (I3.hok.fresh (Nat.le_refl _))⟩
  rw [Array.toArray_toList]
  exact IsTup.new _ _
variable {B : Bs} {e : Expr} {te : DE} {pos p : Pos}
/-- tuple(reversed(t)) -/
def dRevT (te : DE) : DE := fun Γ S Q => te Γ S fun x S1 => match x with
  | .tup ds => Q (.tup ds.reverse) S1
  | _ => False
theorem pd_revT {p2 pos2 : Pos} (hc : X.calm = true) (hg : Gl X "tuple") (hm : X.mg "tuple" = none) (hg2 : Gl X "reversed") (hm2 : X.mg "reversed" = none) (he : PD X B e te)
    (hs : starEach [e] X.env = (false, eval e X.env) :: starEach [] X.env := by rfl)
    (hs2 : starEach [.Call (.Name "reversed" p2) [e] [] pos2] X.env = (false, eval (.Call (.Name "reversed" p2) [e] [] pos2) X.env) :: starEach [] X.env := by rfl) :
    PD X B (.Call (.Name "tuple" p) [.Call (.Name "reversed" p2) [e] [] pos2] [] pos) (dRevT te) := PE.weak (pe_revT hc hg hm hg2 hm2 he hs hs2) fun σ H Q h => by
  obtain ⟨Z, S, Γ, fp, ofp, P, r0, h, q⟩ := h
  refine ⟨Z, S, Γ, fp, ofp, _, r0, h, fun x S1 h1 Z1 H1 fp1 v r1 u1 b1 => ?_⟩
  cases x with
  | tup ds =>
    cases b1 with
    | @tup a0 xs0 _ ht dv =>
      refine ⟨_, _, rfl, same_sqT r1.fr ht, fun p hp => ?_⟩
      have l2 := r1.upF (o := .tup xs0.reverse) hp
      exact q _ S1 h1 _ _ fp1 _ (r1.growF hp) (u1.trans l2) (.tup (SqT.of (show upd Z1.F p (.tup xs0.reverse) p = _ from upd_same)) (dv.reverse.up l2))
  | _ => exact False.elim h1
end
end DL
namespace DL
open PySem PySem.Spec PyProof.Rows L2
/-! ### sorted(xs, key=f) on data -/
/-- a's key isn't behind b's -/
def leK (kf : D → D) (a b : D) : Bool := !PySem.W.dataLt (py (kf b)) (py (kf a))
def sortD (kf : D → D) (ds : List D) : List D := ds.mergeSort (leK kf)
def okKeys (kf : D → D) (ds : List D) : Prop := DLS.Selves (ds.map fun d => py (kf d)) ∧ DLS.Keys (ds.map fun d => py (kf d)) ∧ ∀ d ∈ ds, cmpOk (kf d)
theorem pyAll_map : ∀ ds : List D, pyAll ds = ds.map py
  | [] => by rw [pyAll]; rfl
  | d :: ds => by rw [pyAll, pyAll_map ds]; rfl
theorem pyOkAll_of : ∀ {ds : List D}, (∀ d ∈ ds, pyOk d = true) → pyOkAll ds = true
  | [], _ => by rw [pyOkAll]
  | d :: ds, h => by
    rw [pyOkAll, h d List.mem_cons_self, pyOkAll_of fun x m => h x (List.mem_cons_of_mem _ m)]
    rfl
theorem dvs_zip {K : PySem.W.Frag} {Z : Fz} : ∀ {xs : List V} {ds : List D}, DVs K Z xs ds → ∀ p ∈ xs.zip ds, DV K Z p.1 p.2
  | _, _, .nil, p, m => by cases m
  | _, _, .cons h t, p, m => by
    rw [List.zip_cons_cons] at m
    rcases List.mem_cons.mp m with rfl | m
    · exact h
    · exact dvs_zip t p m
theorem dvs_unzip {K : PySem.W.Frag} {Z : Fz} : ∀ (l : List (V × D)), (∀ p ∈ l, DV K Z p.1 p.2) → DVs K Z (l.map Prod.fst) (l.map Prod.snd)
  | [], _ => .nil
  | p :: l, h => .cons (h p List.mem_cons_self) (dvs_unzip l fun q m => h q (List.mem_cons_of_mem _ m))
theorem zip_map_r {α β γ : Type} (f : β → γ) : ∀ (xs : List α) (ds : List β), xs.zip (ds.map f) = (xs.zip ds).map fun p => (p.1, f p.2)
  | [], _ => rfl
  | _ :: _, [] => rfl
  | x :: xs, d :: ds => by
    rw [List.map_cons, List.zip_cons_cons, List.zip_cons_cons, List.map_cons, zip_map_r f xs ds]
theorem sort_dvs {K : PySem.W.Frag} {Z : Fz} {xs : List V} {ds : List D} (kf : D → D) (h : DVs K Z xs ds) : DVs K Z (((xs.zip (ds.map fun d => py (kf d))).mergeSort fun z z' => !PySem.W.dataLt z'.2 z.2).map Prod.fst) (sortD kf ds) := by
  have e1 : (xs.zip (ds.map fun d => py (kf d))).mergeSort (fun z z' => !PySem.W.dataLt z'.2 z.2) = ((xs.zip ds).mergeSort fun a b => leK kf a.2 b.2).map fun p => (p.1, py (kf p.2)) := by
    rw [zip_map_r]
    exact (PySem.W.sort_maps (fun p : V × D => (p.1, py (kf p.2))) fun a _ b _ => rfl).symm
  have e2 : sortD kf ds = ((xs.zip ds).mergeSort fun a b => leK kf a.2 b.2).map Prod.snd := by
    have q := PySem.W.sort_maps (r := fun a b : V × D => leK kf a.2 b.2) (s := leK kf) Prod.snd (l := xs.zip ds) fun a _ b _ => rfl
    rw [q, List.map_snd_zip (by rw [h.length]; exact Nat.le_refl _)]
    rfl
  rw [e1, e2, List.map_map]
  exact dvs_unzip _ fun p m => dvs_zip h p (List.mem_mergeSort.mp m)
def dSortK (g : DSpec) (kf : D → D) (te : DE) : DA := fun Γ S Q => te Γ S fun x S1 => match der S1 x with
  | .lst ds => (∀ d ∈ ds, ∀ P EP, P (.d (kf d)) S1 → g [d] S1 P EP) ∧ okKeys kf ds ∧ Q (sortD kf ds) S1
  | _ => False
section
variable {X : Cx} {B : Bs} {e : Expr} {te : DE} {pos p p2 kpos : Pos} {k : Nat} {g : DSpec} {x : Str} {q0 : Str}
theorem pf_sortK (kf : D → D) (h : Has X.prog X.w X.K X.mg X.base k x [q0] g) (hr : Room (k + 1) X.A) (hgs : Gl X "sorted") (hms : X.mg "sorted" = none) (he : PB X B e te)
    (hg : Gl X x := by rfl) (hdb : (x == ("__debug__" : Str)) = false := by decide)
    (hs : starEach [e] X.env = (false, eval e X.env) :: starEach [] X.env := by rfl)
    (q1 : backTo pos (starEach [e] X.env) = (false, eval e X.env) :: backTo pos (starEach [] X.env) := by rfl) (q2 : (backTo pos (starEach [e] X.env)).any (·.1) = false := by rfl)
    (q3 : (backToKw pos (keywordEach [⟨some "key", .Name x p2, kpos⟩] X.env)).all (·.1.isSome) = true := by rfl) (q4 : (backToKw pos (keywordEach [⟨some "key", .Name x p2, kpos⟩] X.env)).any (·.1.isNone) = false := by rfl)
    (q5 : (backToKw pos (keywordEach [⟨some "key", .Name x p2, kpos⟩] X.env)).filterMap (·.1) = [Str.ofString "key"] := by rfl) :
    PF X B (.Call (.Name "sorted" p) [e] [⟨some "key", .Name x p2, kpos⟩] pos) (dSortK g kf te) := by
  obtain ⟨f, fd, h1, h2, h3, h4⟩ := h.ex
  refine PE.weak (pe_callBK (call_sortedKey h4 hr h3) hgs hms bb_sorted (pa_cons he pa_nil hs) (pk_cons (nm := some "key") (pe_glob (v := .ref f) hg h1 rfl hdb) pk_nil) (by decide) (by decide) q1 q2 q3 q4 q5) fun σ H Q hh => ?_
  obtain ⟨Z, S, Γ, fp, ofp, P, r0, hh, q⟩ := hh
  refine ⟨Z, S, Γ, fp, ofp, _, r0, hh, fun y S1 y1 Z1 H1 fp1 v r1 u1 b1 => ?_⟩
  have b1 := b1.der (S := S1)
  generalize DL.der S1 y = y at b1 y1
  cases y with
  | lst ds =>
    obtain ⟨kk, ⟨ok1, ok2, ok3⟩, y1⟩ := y1
    obtain ⟨a, xs, rfl, hs1, dv⟩ := b1.list r1
    refine ⟨a, xs, fun i H' ks => ∃ Z' fp', St0 X.K Z' S1 H' fp' ∧ Up Z1 H1 fp1 Z' H' fp' ∧ DVs X.K Z' ks ((ds.take i).map kf), rfl, rfl, hs1, ⟨Z1, fp1, r1.st0, Up.refl _ _ _, .nil⟩, ?_, ?_⟩
    · rintro i y H' ks hy ⟨Z', fp', s0, up, dk⟩
      obtain ⟨d, hd, dy⟩ := dv.get hy
      have hm : d ∈ ds := List.mem_of_getElem? hd
      refine ⟨Z', S1, fp', [d], fun w S' => w = .d (kf d) ∧ S' = S1, fun _ _ => False, s0, .cons (dy.up up) .nil, kk d hm _ _ ⟨rfl, rfl⟩, ?_, fun _ _ z => z.elim⟩
      rintro w S' ⟨rfl, rfl⟩ Z2 H2 fp2 v s2 up2 b2
      refine ⟨Z2, fp2, s2, up.trans up2, ?_⟩
      have et : ds.take (i + 1) = ds.take i ++ [d] := by rw [List.take_add_one, hd]; rfl
      rw [et, List.map_append]
      exact (dk.up up2).append (.cons b2 .nil)
    · rintro H' ks ⟨Z', fp', s0, up, dk⟩
      have el : xs.length = ds.length := dv.length
      rw [List.take_of_length_le (by omega)] at dk
      have r2 := r1.called s0 up
      refine ⟨ds.map fun d => py (kf d), ?_, ok1, ok2, fun d m => ?_, fun p' hp1 hp2 => ?_⟩
      · have := dvs_dp r2.fr dk (pyOkAll_of fun x m => by
          obtain ⟨d, md, rfl⟩ := List.mem_map.mp m
          exact (ok3 d md).1)
        rw [pyAll_map, List.map_map] at this
        exact this
      · obtain ⟨d', md, rfl⟩ := List.mem_map.mp m
        exact (ok3 d' md).2
      · obtain ⟨n1, n2, n3, n4⟩ := r2.fresh hp2
        exact q _ S1 y1 Z' _ fp' p' _ (r2.grow hp2) ((u1.trans up).trans (r2.up0 hp2)) upd_same (sort_dvs kf (dv.up up)) n3 n1 n2 (u1.there _ hp1)
  | _ => exact False.elim y1
/-- sorted(texts) -/
def fSortS : List D → (List D → Prop) → Prop := fun xs P => match xs with
  | [.lst ds] => ∃ ss, strsOf ds = some ss ∧ ss.length < 64 ∧ ∀ ys : List Str, ys.Perm ss → sortedS ys = true → P (ys.map D.str)
  | _ => False
theorem o_sortS : CallR X (.builtin "sorted") (rSortedS X.K) ∧ CallF X B (rSortedS X.K) fSortS := ⟨cr_sortedS, fun {Z S Γ σ H fp ofp xs vs Q P} r bv h q => by
  unfold fSortS at h
  split at h
  · obtain ⟨ss, e1, hl, h⟩ := h
    rw [strsOf_eq e1] at bv
    cases bv with
    | cons b1 b2 =>
      cases b2
      obtain ⟨p, us, rfl, hs, hd⟩ := b1.list r
      rw [DVs.of_strs hd] at hs
      refine ⟨p, ss, rfl, hs, hl, fun ys l pm so hl => ?_⟩
      obtain ⟨q1, q2, q3, q4⟩ := r.fresh hl
      exact q _ (h ys pm so) Z _ l _ (r.grow hl) (r.up0 hl) upd_same (DVs.strs ys) q3 q1 q2 hl
  · exact h.elim⟩
end
end DL
namespace DL
open PySem PySem.Spec PyProof.Rows L2
section
variable {X : Cx} {B : Bs} {e : Expr} {te : DE} {pos : Pos}
/-- x.insert(j, e), x a slot's own list -/
def dIns (i : Nat) (ti te : DE) : DS := fun DD Γ S => match slotAt Γ i with
  | some (.own ds) => ti Γ S fun n S1 => te Γ S1 fun y S2 => sz (ds.length + 1) ∧ ∃ j : Nat, n = .int j ∧ j ≤ ds.length ∧ DD.nx (Γ.set i (some (.own (ds.take j ++ [y] ++ ds.drop j)))) S2
  | _ => False
theorem ps_dins (i : Nat) {x : Str} {p1 p2 p3 : Pos} {ix : Expr} {ti : DE} (hi : PD X B ix ti) (he : PD X B e te)
    (h : ∀ {ti' te' : TE}, PE X ix ti' → PE X e te' → PS X (.Expr (.Call (.Attribute (.Name x p1) "insert" p2) [ix, e] [] p3) pos) (tDrop (tBM X.K "list" (fun x vs H Q => ∃ (l : Addr) (xs : List V) (i : Int) (y : V), x = .ref l ∧ vs = [.int i, y] ∧ H l = some (.lst xs) ∧ xs.length < sizeLine ∧ 0 ≤ i ∧ i < 2 ^ 63 ∧
        Q .non (upd H l (.lst (xs.take i.toNat ++ [y] ++ xs.drop i.toNat)))) (tVar i) (tCons ti' (tCons te' tNil)))) := by
      exact fun h h2 => ps_expr (pe_bm PySem.F.plainAttrs_list PySem.F.slot_list_insert PySem.F.type_list_insert mt_insert (pv _) (pa_cons h (pa_cons h2 pa_nil)))) :
    PSD X B (.Expr (.Call (.Attribute (.Name x p1) "insert" p2) [ix, e] [] p3) pos) (dIns i ti te) := PS.weak (h hi he) fun Dn σ H h => by
  obtain ⟨Z, S, Γ, fp, ofp, DD, r, h, ok⟩ := h
  unfold dIns at h
  split at h
  · rename_i ds e0
    obtain ⟨a, xs, e1, h1, d1, k⟩ := r.write (ds' := []) e0
    refine ⟨_, e1, .inl ⟨rfl, _, SqL.of h1⟩, ?_⟩
    refine ⟨Z, S, Γ, fp, ofp, _, r, h, fun n S1 p1 Z1 H1 fp1 vn r1 u1 dn => ?_⟩
    refine ⟨Z1, S1, Γ, fp1, ofp, _, r1, p1, fun d S' p Z' H' fp' v r' l dv => ?_⟩
    obtain ⟨s1, j, rfl, hj, p⟩ := p
    cases dn
    obtain ⟨a', xs', e1', h1', d1', k'⟩ := r'.write (ds' := ds.take j ++ [d] ++ ds.drop j) e0
    rw [e1] at e1'
    cases e1'
    have hs : ds.length + 1 ≤ 100000 := s1
    have hl := d1'.length
    refine ⟨a, xs', (j : Int), v, rfl, rfl, h1', ?_, Int.natCast_nonneg _, ?_, ?_⟩
    · rw [hl]
      exact Nat.lt_of_lt_of_le (Nat.lt_succ_self _) s1.ok
    · have : (j : Int) ≤ 100000 := by omega
      exact Int.lt_of_le_of_lt this (by decide)
    · rw [Int.toNat_natCast]
      exact ok.nx _ _ _ _ _ _ _ (k' _ (((d1'.take j).append (.cons dv .nil)).append (d1'.drop j))) p
  · exact h.elim
/-- xs[::-1] -/
def dRevL (te : DE) : DA := fun Γ S Q => te Γ S fun x S1 => match der S1 x with
  | .lst ds => Q ds.reverse S1
  | _ => False
theorem pf_revL {k : Nat} {p1 p2 p3 : Pos} (he : PB X B e te) : PF X B (.Subscript e (.Slice none none (some (.UnaryOp .USub (.Constant (.int 1) k p1) p2)) p3) pos) (dRevL te) := PE.weak (pe_revL he) fun σ H Q h => by
  obtain ⟨Z, S, Γ, fp, ofp, P, r0, h, q⟩ := h
  refine ⟨Z, S, Γ, fp, ofp, _, r0, h, fun x S1 h1 Z1 H1 fp1 v r1 u1 b1 => ?_⟩
  have b1 := b1.der (S := S1)
  generalize DL.der S1 x = x at b1 h1
  cases x with
  | lst ds =>
    obtain ⟨a, xs, rfl, hs, dv⟩ := b1.list r1
    refine ⟨a, xs, rfl, hs, fun p hp => ?_⟩
    obtain ⟨n1, n2, n3, n4⟩ := r1.fresh hp
    exact q _ S1 h1 Z1 _ fp1 p _ (r1.grow hp) (u1.trans (r1.up0 hp)) upd_same dv.reverse n3 n1 n2 (u1.there _ hp)
  | _ => exact False.elim h1
/-- x < y of ints or of texts -/
def strLt (a b : Str) : Bool := decide (a.cps.toList < b.cps.toList)
def fLtS : D → D → (D → Prop) → Prop := fun x y P => match x, y with
  | .int i, .int j => P (.bl (decide (i < j)))
  | .str a, .str b => P (.bl (strLt a b))
  | _, _ => False
theorem o_ltS : OpR X (compareOp .Lt) (fun x y H Q => rI0 (fun i j => .bl (decide (i < j))) x y H Q ∨ ∃ i j, x = .str i ∧ y = .str j ∧ Q (.bl (decide (i.cps.toList < j.cps.toList))) H) ∧ OpD X B (fun x y H Q => rI0 (fun i j => .bl (decide (i < j))) x y H Q ∨ ∃ i j, x = .str i ∧ y = .str j ∧ Q (.bl (decide (i.cps.toList < j.cps.toList))) H) fLtS :=
  ⟨op_lt.or op_lt_str, fun {Z S Γ σ H fp ofp x y vx vy Q P} r bx by_ h q => by
    unfold fLtS at h
    split at h
    · exact .inl ⟨_, _, bx.int, by_.int, q _ h Z H _ r (.refl _ _ _) (.bl _)⟩
    · exact .inr ⟨_, _, bx.str, by_.str, q _ h Z H _ r (.refl _ _ _) (.bl _)⟩
    · exact h.elim⟩
end
end DL
namespace DL
open PySem PySem.Spec PyProof.Rows L2
section
variable {K : PySem.W.Frag} {Z : Fz} {H : Hp}
theorem GR.own_del : ∀ {σ : L2.St} {Γ : Gm} {as : List Addr} {i : Nat} {ds : List D} {a : Addr}, GR K Z H σ Γ as → slotAt Γ i = some (.own ds) → σ[i]? = some (some (.ref a)) → ∃ l r, as = l ++ [a] ++ r ∧ GR K Z H σ (Γ.set i none) (l ++ r)
  | _, _, _, _, _, _, .nil, e, _ => by cases e
  | _, _, _, 0, _, _, .gn _, e, _ => by cases e
  | _, _, _, i + 1, _, _, .gn q, e, e2 => by
    obtain ⟨l, r, e3, g⟩ := GR.own_del q e (by simpa using e2)
    exact ⟨l, r, e3, .gn g⟩
  | _, _, _, 0, _, a, .gs (bs := bs) h q, e, e2 => by
    cases e
    simp at e2
    subst e2
    cases h with
    | own h1 h2 => exact ⟨[], bs, rfl, .gn q⟩
  | _, _, _, i + 1, _, a, .gs (as := as1) h q, e, e2 => by
    obtain ⟨l, r, e3, g⟩ := GR.own_del q e (by simpa using e2)
    refine ⟨as1 ++ l, r, by rw [e3]; simp [List.append_assoc], ?_⟩
    have g2 := GR.gs h g
    simpa [List.append_assoc] using g2
end
section
variable {K : PySem.W.Frag} {B : Bs} {Z : Fz} {S : Sto} {Γ : Gm} {σ : L2.St} {H : Hp} {fp ofp : List Addr}
/-- a slot's own list is let be from now on -/
theorem R.letBe (r : R K B Z S Γ σ H fp ofp) {i : Nat} {ds : List D} (e : slotAt Γ i = some (.own ds)) : ∃ Z' ofp', R K B Z' S (Γ.set i (some (.d (.lst ds)))) σ H fp ofp' := by
  obtain ⟨v, bs, e1, w, hb⟩ := r.gm.get e
  cases w with
  | @own a xs _ h q =>
    obtain ⟨l, rr, e3, g⟩ := r.gm.own_del e e1
    have m : a ∈ ofp := hb a (List.mem_singleton.mpr rfl)
    have nd := List.nodup_append.mp r.nd
    have nf : a ∉ fp := fun z => nd.2.2 a z a m rfl
    have fa : Z.F a = none := r.nf a (List.mem_append_right _ m)
    have nd2 : (fp ++ (l ++ rr)).Nodup := by
      have := r.nd
      rw [e3] at this
      exact nodup_mid this
    have sub : ∀ b, b ∈ l ++ rr → b ∈ ofp := fun b z => by
      rw [e3]
      simp only [List.mem_append] at z ⊢
      rcases z with z | z
      · exact .inl (.inl z)
      · exact .inr z
    have na : a ∉ l ++ rr := fun z => by
      have n1 := nd.2.1
      rw [e3, List.append_assoc] at n1
      have p : (l ++ ([a] ++ rr)).Perm (a :: (l ++ rr)) := List.perm_middle
      exact (List.nodup_cons.mp ((p.nodup_iff).mp n1)).1 z
    have sub2 : ∀ b, b ∈ fp ++ (l ++ rr) → b ∈ fp ++ ofp := fun b z => (List.mem_append.mp z).elim (List.mem_append_left _) fun z => List.mem_append_right _ (sub b z)
    have r1 : R K B Z S (Γ.set i none) σ H fp (l ++ rr) := ⟨r.kk, r.fr, r.st, g, nd2, fun b z => r.nf b (sub2 b z), ⟨r.ext.le, r.ext.fl, r.ext.keep, r.ext.there, fun b z => r.ext.new b (sub2 b z), r.ext.frz⟩, fun b z => r.of b (sub b z)⟩
    have hB := r.of a m
    have r2 := r1.freeze h fa nf na hB
    have le := le_frz (Z := Z) (o := .lst xs) fa
    obtain ⟨ofp', r3, _⟩ := r2.setD i (v := .ref a) (x := .lst ds) (.lst (SqL.of (show upd Z.F a (.lst xs) a = _ from upd_same)) (q.mono le))
    rw [set_self_id σ i _ e1, List.set_set] at r3
    exact ⟨_, ofp', r3⟩
end
section
variable {X : Cx} {B : Bs} {ts : DS} {st : Stmt}
/-- before a statement a slot's own list is let be -/
def dBe (i : Nat) (ts : DS) : DS := fun DD Γ S => match slotAt Γ i with
  | some (.own ds) => ts DD (Γ.set i (some (.d (.lst ds)))) S
  | _ => ts DD Γ S
theorem ps_dbe (i : Nat) (h : PSD X B st ts) : PSD X B st (dBe i ts) := PS.weak h fun Dn σ H h => by
  obtain ⟨Z, S, Γ, fp, ofp, DD, r, h, ok⟩ := h
  unfold dBe at h
  split at h
  · rename_i ds e0
    obtain ⟨Z', ofp', r'⟩ := r.letBe e0
    exact ⟨Z', S, _, fp, ofp', DD, r', h, ok⟩
  · exact ⟨Z, S, Γ, fp, ofp, DD, r, h, ok⟩
end
end DL
namespace DL
open PySem PySem.Spec PyProof.Rows L2
/-! ### fields -/
def lookW : List Str → List W → Str → Option W
  | n :: nm, w :: ws, f => if n = f then some w else lookW nm ws f
  | _, _, _ => none
def putN (f : Str) : List Str → List Str
  | [] => [f]
  | g :: r => if g = f then g :: r else g :: putN f r
def putW (f : Str) (w : W) : List Str → List W → List W
  | g :: nm, x :: ws => if g = f then w :: ws else x :: putW f w nm ws
  | _, _ => [w]
section
variable {K : PySem.W.Frag} {Z Z' : Fz} {H H' : Hp}
theorem FsR.look : ∀ {nm : List Str} {fs : List (Str × V)} {ws : List W} {as : List Addr} {f : Str} {w : W}, FsR K Z H nm fs ws as → lookW nm ws f = some w → ∃ v bs, fs.lookup f = some v ∧ WR K Z H v w bs ∧ ∀ a ∈ bs, a ∈ as
  | _, _, _, _, _, _, .nil, e => by cases e
  | _, _, _, _, f, w, .cons (f := g) (v := v) (nm := nm) (r' := ws) h q, e => by
    unfold lookW at e
    by_cases z : g = f
    · rw [if_pos z] at e
      cases e
      subst z
      exact ⟨v, _, by simp [List.lookup], h, fun a m => List.mem_append_left _ m⟩
    · rw [if_neg z] at e
      obtain ⟨v2, bs, e1, h1, k⟩ := FsR.look q e
      refine ⟨v2, bs, ?_, h1, fun a m => List.mem_append_right _ (k a m)⟩
      have : (f == g) = false := beq_eq_false_iff_ne.mpr (Ne.symm z)
      rw [List.lookup_cons, this]
      exact e1
theorem FsR.miss : ∀ {nm : List Str} {fs : List (Str × V)} {ws : List W} {as : List Addr} {f : Str}, FsR K Z H nm fs ws as → lookW nm ws f = none → fs.lookup f = none
  | _, _, _, _, _, .nil, e => rfl
  | _, _, _, _, f, .cons (f := g) (v := v) (nm := nm) (r' := ws) h q, e => by
    unfold lookW at e
    by_cases z : g = f
    · rw [if_pos z] at e
      cases e
    · rw [if_neg z] at e
      have : (f == g) = false := beq_eq_false_iff_ne.mpr (Ne.symm z)
      rw [List.lookup_cons, this]
      exact FsR.miss q e
theorem FsR.len : ∀ {nm : List Str} {fs : List (Str × V)} {ws : List W} {as : List Addr}, FsR K Z H nm fs ws as → fs.length = nm.length ∧ ws.length = nm.length
  | _, _, _, _, .nil => ⟨rfl, rfl⟩
  | _, _, _, _, .cons _ q => by
    obtain ⟨a, b⟩ := q.len
    exact ⟨by rw [List.length_cons, List.length_cons, a], by rw [List.length_cons, List.length_cons, b]⟩
/-- a field stored -/
theorem FsR.putV : ∀ {nm : List Str} {fs : List (Str × V)} {ws : List W} {as bs : List Addr} {f : Str} {v : V} {w : W}, FsR K Z H nm fs ws as → WR K Z H v w bs →
    ∃ l m r, as = l ++ m ++ r ∧ FsR K Z H (putN f nm) (putF f v fs) (putW f w nm ws) (l ++ bs ++ r)
  | _, _, _, _, bs, f, _, _, .nil, h => ⟨[], [], [], rfl, by
    have := FsR.cons (f := f) h (FsR.nil (K := K) (Z := Z) (H := H))
    rw [List.nil_append]
    exact this⟩
  | _, _, _, _, bs, f, v, w, .cons (f := g) (v := v0) (as := as1) (bs := bs1) (nm := nm) (r' := ws) h0 q, h => by
    unfold putN putF putW
    by_cases z : g = f
    · rw [if_pos z, if_pos z, if_pos z]
      exact ⟨[], as1, bs1, rfl, .cons h q⟩
    · rw [if_neg z, if_neg z, if_neg z]
      obtain ⟨l, m, r, e, q2⟩ := FsR.putV (f := f) q h
      refine ⟨as1 ++ l, m, r, by rw [e]; simp [List.append_assoc], ?_⟩
      have := FsR.cons (f := g) h0 q2
      simpa [List.append_assoc] using this
end
section
variable {K : PySem.W.Frag} {B : Bs} {Z Z' : Fz} {S : Sto} {Γ : Gm} {σ : L2.St} {H H' : Hp} {fp ofp : List Addr}
/-- a cell is another, what it owns may be other lists of our own -/
theorem R.putC (r : R K B Z S Γ σ H fp ofp) {n : Nat} {o o' : O} {ho : HO} (e : cellAt S n = some o)
    (h : ∀ as0, OR K Z H (Z.ρ n) o as0 → as0.Nodup → (∀ b ∈ as0, b ∈ fp) → ∃ as', Z.ρ n ∈ as0 ∧ as'.Nodup ∧ (∀ b ∈ as', b ∈ as0 ∨ (Z.F b = none ∧ b ∉ fp ∧ b ∉ ofp ∧ B.H b = none)) ∧ ∀ H', H' (Z.ρ n) = some ho → (∀ a u, a ≠ Z.ρ n → H a = some u → H' a = some u) → OR K Z H' (Z.ρ n) o' as') :
    ∃ fp', R K B Z (S.set n o') Γ σ (upd H (Z.ρ n) ho) fp' ofp := by
  obtain ⟨l, as0, rr, e1, h1, k⟩ := r.st.get e
  simp only [Nat.zero_add] at h1 k
  have nd := List.nodup_append.mp r.nd
  have ndf := nd.1
  rw [e1] at ndf
  have ndl := List.nodup_append.mp ndf
  have ndl2 := List.nodup_append.mp ndl.1
  obtain ⟨as', ma, nda, hsub, k2⟩ := h as0 h1 ndl2.2.1 fun a m => by rw [e1]; exact List.mem_append_left _ (List.mem_append_right _ m)
  have mf : Z.ρ n ∈ fp := by rw [e1]; exact List.mem_append_left _ (List.mem_append_right _ ma)
  have na : ∀ b u, b ≠ Z.ρ n → H b = some u → upd H (Z.ρ n) ho b = some u := fun b u q e => by
    rw [upd_ne q]
    exact e
  have hl : ∀ a ∈ l, a ≠ Z.ρ n := fun a m z => ndl2.2.2 a m _ ma z
  have hr : ∀ a ∈ rr, a ≠ Z.ρ n := fun a m z => ndl.2.2 _ (List.mem_append_right _ ma) a m z.symm
  have lf : ∀ a ∈ l, a ∈ fp := fun a m => by rw [e1]; exact List.mem_append_left _ (List.mem_append_left _ m)
  have rf : ∀ a ∈ rr, a ∈ fp := fun a m => by rw [e1]; exact List.mem_append_right _ m
  have af : ∀ a ∈ as0, a ∈ fp := fun a m => by rw [e1]; exact List.mem_append_left _ (List.mem_append_right _ m)
  have fF : Z.F (Z.ρ n) = none := r.nf _ (List.mem_append_left _ mf)
  have h2 := k Z (upd H (Z.ρ n) ho) o' as' (.refl _) (by have := r.kk; omega) (fun a m u e => na a u (hl a m) e) (fun a m u e => na a u (hr a m) e) (k2 _ upd_same na)
  have ndN : (l ++ as' ++ rr).Nodup := by
    refine List.nodup_append.mpr ⟨List.nodup_append.mpr ⟨ndl2.1, nda, fun a m b mb z => ?_⟩, ndl.2.1, fun a m b mb z => ?_⟩
    · subst z
      rcases hsub a mb with q | q
      · exact ndl2.2.2 a m a q rfl
      · exact q.2.1 (lf a m)
    · subst z
      rcases List.mem_append.mp m with m | m
      · exact ndl.2.2 a (List.mem_append_left _ m) a mb rfl
      · rcases hsub a m with q | q
        · exact ndl.2.2 a (List.mem_append_right _ q) a mb rfl
        · exact q.2.1 (rf a mb)
  have cases3 : ∀ a, a ∈ l ++ as' ++ rr → a ∈ fp ∨ (Z.F a = none ∧ a ∉ fp ∧ a ∉ ofp ∧ B.H a = none) := fun a m => by
    rcases List.mem_append.mp m with m | m
    · rcases List.mem_append.mp m with m | m
      · exact .inl (lf a m)
      · exact (hsub a m).imp (af a) id
    · exact .inl (rf a m)
  refine ⟨l ++ as' ++ rr, by rw [List.length_set]; exact r.kk, fun b u e => na b u (fun z => by rw [z, fF] at e; cases e) (r.fr b u e), h2, r.gm.mono (.refl _) fun a m u e => na a u (fun z => nd.2.2 _ mf a m z.symm) e,
    List.nodup_append.mpr ⟨ndN, nd.2.1, fun a m b mb z => ?_⟩, fun a m => ?_, ⟨r.ext.le, r.ext.fl, fun b u e q => na b u (fun z => ?_) (r.ext.keep b u e q), fun b e => ?_, fun a m => ?_, r.ext.frz⟩, r.of⟩
  · subst z
    rcases cases3 a m with q | q
    · exact nd.2.2 a q a mb rfl
    · exact q.2.2.1 mb
  · rcases List.mem_append.mp m with m | m
    · rcases cases3 a m with q | q
      · exact r.nf a (List.mem_append_left _ q)
      · exact q.1
    · exact r.nf a (List.mem_append_right _ m)
  · subst z
    rcases r.ext.new _ (List.mem_append_left _ mf) with z | z
    · exact q z
    · rw [z] at e
      cases e
  · by_cases z : b = Z.ρ n
    · rw [z, upd_same] at e
      cases e
    · rw [upd_ne z] at e
      exact r.ext.there b e
  · rcases List.mem_append.mp m with m | m
    · rcases cases3 a m with q | q
      · exact r.ext.new a (List.mem_append_left _ q)
      · exact .inr q.2.2.2
    · exact r.ext.new a (List.mem_append_right _ m)
end
/-- a field stored: a value -/
theorem R.putFV {K : PySem.W.Frag} {B : Bs} {Z : Fz} {S : Sto} {Γ : Gm} {σ : L2.St} {H : Hp} {fp ofp : List Addr} (r : R K B Z S Γ σ H fp ofp) {n : Nat} {C dx : Addr} {nm : List Str} {ws : List W} {fs : List (Str × V)} (e : cellAt S n = some (.ins C nm ws)) (k : H (Z.ρ n) = some (.ins C dx fs)) (f : Str) {v : V} {y : D} (dv : DV K Z v y) :
    ∃ fp', R K B Z (S.set n (.ins C (putN f nm) (putW f (.d y) nm ws))) Γ σ (upd H (Z.ρ n) (.ins C dx (putF f v fs))) fp' ofp := by
  refine r.putC e fun as0 oc hn hin => ?_
  cases oc with
  | ins g1 g2 =>
    rw [k] at g1
    cases g1
    obtain ⟨l, m, rr, ea, q⟩ := g2.putV (f := f) (WR.d (H := H) dv)
    rw [List.append_nil] at q
    obtain ⟨hn1, hn2⟩ := List.nodup_cons.mp hn
    have sl : (l ++ rr).Sublist (l ++ m ++ rr) := by
      rw [List.append_assoc]
      exact (List.Sublist.refl l).append (List.sublist_append_right m rr)
    rw [← ea] at sl
    refine ⟨Z.ρ n :: (l ++ rr), List.mem_cons_self, List.nodup_cons.mpr ⟨fun z => hn1 (sl.subset z), hn2.sublist sl⟩, fun b mb => .inl ?_, fun H' g hk => ?_⟩
    · rcases List.mem_cons.mp mb with z | mb
      · rw [z]; exact List.mem_cons_self
      · exact List.mem_cons_of_mem _ (sl.subset mb)
    · exact .ins g (q.mono (.refl _) fun a ma u eu => hk a u (fun z => hn1 (by rw [← z]; exact sl.subset ma)) eu)
/-- .. a list of our own -/
theorem R.putFO {K : PySem.W.Frag} {B : Bs} {Z : Fz} {S : Sto} {Γ : Gm} {σ : L2.St} {H : Hp} {fp ofp : List Addr} (r : R K B Z S Γ σ H fp ofp) {n : Nat} {C dx : Addr} {nm : List Str} {ws : List W} {fs : List (Str × V)} (e : cellAt S n = some (.ins C nm ws)) (k : H (Z.ρ n) = some (.ins C dx fs)) (f : Str) {p : Addr} {xs : List V} {ds : List D}
    (hp : H p = some (.lst xs)) (dv : DVs K Z xs ds) (n1 : Z.F p = none) (n2 : p ∉ fp) (n3 : p ∉ ofp) (n4 : B.H p = none) :
    ∃ fp', R K B Z (S.set n (.ins C (putN f nm) (putW f (.own ds) nm ws))) Γ σ (upd H (Z.ρ n) (.ins C dx (putF f (.ref p) fs))) fp' ofp := by
  have np : p ≠ Z.ρ n := fun z => by
    rw [z, k] at hp
    cases hp
  refine r.putC e fun as1 oc hn hin => ?_
  cases oc with
  | @ins _ _ _ _ _ as2 g1 g2 =>
    rw [k] at g1
    cases g1
    obtain ⟨l, m, rr, ea, q⟩ := g2.putV (f := f) (WR.own (K := K) (Z := Z) hp dv)
    obtain ⟨hn1, hn2⟩ := List.nodup_cons.mp hn
    have sl : (l ++ rr).Sublist (l ++ m ++ rr) := by
      rw [List.append_assoc]
      exact (List.Sublist.refl l).append (List.sublist_append_right m rr)
    rw [← ea] at sl
    have pa : p ∉ as2 := fun z => n2 (hin p (List.mem_cons_of_mem _ z))
    have mem : ∀ b, b ∈ l ++ [p] ++ rr → b = p ∨ b ∈ l ++ rr := fun b z => by
      simp only [List.mem_append, List.mem_singleton] at z ⊢
      rcases z with (z | z) | z
      · exact .inr (.inl z)
      · exact .inl z
      · exact .inr (.inr z)
    have nd2 : (l ++ [p] ++ rr).Nodup := by
      have pm : (l ++ ([p] ++ rr)).Perm (p :: (l ++ rr)) := List.perm_middle
      rw [List.append_assoc]
      exact (pm.nodup_iff).mpr (List.nodup_cons.mpr ⟨fun z => pa (sl.subset z), hn2.sublist sl⟩)
    refine ⟨Z.ρ n :: (l ++ [p] ++ rr), List.mem_cons_self, List.nodup_cons.mpr ⟨fun z => ?_, nd2⟩, fun b mb => ?_, fun H' g hk => ?_⟩
    · rcases mem _ z with z | z
      · exact np z.symm
      · exact hn1 (sl.subset z)
    · rcases List.mem_cons.mp mb with z | mb
      · rw [z]; exact .inl List.mem_cons_self
      · rcases mem _ mb with z | z
        · rw [z]; exact .inr ⟨n1, n2, n3, n4⟩
        · exact .inl (List.mem_cons_of_mem _ (sl.subset z))
    · refine .ins g (q.mono (.refl _) fun a ma u eu => hk a u (fun z => ?_) eu)
      rw [z] at ma
      rcases mem _ ma with z2 | z2
      · exact np z2.symm
      · exact hn1 (sl.subset z2)
/-! ### a field read -/
/-- what a field of the object at cell n holds -/
def fldOf (S : Sto) (n : Nat) (C : Addr) (f : Str) : Option W := match cellAt S n with
  | some (.ins C' nm ws) => if C' = C then lookW nm ws f else none
  | _ => none
theorem fldOf_ex {S : Sto} {n : Nat} {C : Addr} {f : Str} {w : W} (h : fldOf S n C f = some w) : ∃ nm ws, cellAt S n = some (.ins C nm ws) ∧ lookW nm ws f = some w := by
  unfold fldOf at h
  split at h
  · rename_i C' nm ws e
    by_cases z : C' = C
    · rw [if_pos z] at h
      subst z
      exact ⟨nm, ws, e, h⟩
    · rw [if_neg z] at h
      cases h
  · cases h
section
variable {X : Cx} {B : Bs} {e o value : Expr} {te to' tv : DE} {tr : DA} {pos pos' apos : Pos} {f m : Str} {C : Addr} {es : List Expr} {w : WX} {ew : EW} {ps : List Str} {g : DSpec} {k : Nat} {x : Str} {p : Pos}
def dFld (C : Addr) (f : Str) (te : DE) : DE := fun Γ S Q => te Γ S fun x S1 => match x with
  | .ref n => ∃ y, fldOf S1 n C f = some (.d y) ∧ Q y S1
  | _ => False
theorem pd_fld (c : Cls X.K C) (na : NoAttr X.K C f) (he : PD X B e te) (hb : attributeBase e f X.env (eval e X.env) = eval e X.env := by rfl) : PD X B (.Attribute e f pos) (dFld C f te) := PE.weak (pe_fld he hb) fun σ H Q h => by
  obtain ⟨Z, S, Γ, fp, ofp, P, r0, h, q⟩ := h
  refine ⟨Z, S, Γ, fp, ofp, _, r0, h, fun x S1 h1 Z1 H1 fp1 v r1 u1 b1 => ?_⟩
  cases x with
  | ref n =>
    obtain ⟨y, hy, h1⟩ := h1
    obtain ⟨nm, ws, e1, e2⟩ := fldOf_ex hy
    cases b1
    obtain ⟨as, oc, _⟩ := r1.cell e1
    cases oc with
    | ins k1 k2 =>
      obtain ⟨v, bs, l1, wr, _⟩ := k2.look e2
      cases wr with
      | d dv => exact ⟨_, C, _, _, v, rfl, k1, c, na, l1, q _ S1 h1 Z1 H1 fp1 _ r1 u1 dv⟩
  | _ => exact False.elim h1
/-- len(o.f), f a list of the object's own or let be -/
def dFldLen (C : Addr) (f : Str) (te : DE) : DE := fun Γ S Q => te Γ S fun x S1 => match x with
  | .ref n => ∃ ds, (fldOf S1 n C f = some (.d (.lst ds)) ∨ fldOf S1 n C f = some (.own ds)) ∧ Q (.int ds.length) S1
  | _ => False
theorem pd_fldLen {lp : Pos} (c : Cls X.K C) (na : NoAttr X.K C f) (hg : Gl X "len") (hm : X.mg "len" = none) (he : PD X B e te) (hb : attributeBase e f X.env (eval e X.env) = eval e X.env := by rfl)
    (hs : starEach [.Attribute e f pos'] X.env = (false, eval (.Attribute e f pos') X.env) :: starEach [] X.env := by rfl) (hpl : (backTo pos (starEach [] X.env)).any (·.1) = false := by rfl) :
    PD X B (.Call (.Name "len" lp) [.Attribute e f pos'] [] pos) (dFldLen C f te) := PE.weak (pe_callB call_len_seq hg hm bb_len (pa_cons (pe_fld he hb) pa_nil hs) (by decide) (by decide) hs hpl) fun σ H Q h => by
  obtain ⟨Z, S, Γ, fp, ofp, P, r0, h, q⟩ := h
  refine ⟨Z, S, Γ, fp, ofp, _, r0, h, fun x S1 h1 Z1 H1 fp1 v r1 u1 b1 => ?_⟩
  cases x with
  | ref n =>
    obtain ⟨ds, hy, h1⟩ := h1
    cases b1
    rcases hy with hy | hy
    · obtain ⟨nm, ws, e1, e2⟩ := fldOf_ex hy
      obtain ⟨as, oc, _⟩ := r1.cell e1
      cases oc with
      | ins k1 k2 =>
        obtain ⟨v, bs, l1, wr, _⟩ := k2.look e2
        cases wr with
        | d dv =>
          cases dv with
          | lst hs dv => exact ⟨_, C, _, _, _, rfl, k1, c, na, l1, _, _, rfl, .inl (same_sqL r1.fr hs), by rw [dv.length]; exact q _ S1 h1 Z1 H1 fp1 _ r1 u1 (.int _)⟩
    · obtain ⟨nm, ws, e1, e2⟩ := fldOf_ex hy
      obtain ⟨as, oc, _⟩ := r1.cell e1
      cases oc with
      | ins k1 k2 =>
        obtain ⟨v, bs, l1, wr, _⟩ := k2.look e2
        cases wr with
        | own hs dv => exact ⟨_, C, _, _, _, rfl, k1, c, na, l1, _, _, rfl, .inl (SqL.of hs), by rw [dv.length]; exact q _ S1 h1 Z1 H1 fp1 _ r1 u1 (.int _)⟩
  | _ => exact False.elim h1
/-! ### a field stored -/
/-- the store with a field of cell n put -/
def putFld (S : Sto) (n : Nat) (f : Str) (w : W) : Sto := match cellAt S n with
  | some (.ins C nm ws) => S.set n (.ins C (putN f nm) (putW f w nm ws))
  | _ => S
def isIns (S : Sto) (n : Nat) (C : Addr) : Prop := ∃ nm ws, cellAt S n = some (.ins C nm ws) ∧ nm.length ≤ 30
def dFldSet (C : Addr) (f : Str) (to' te : DE) : DS := fun DD Γ S => te Γ S fun y S1 => to' Γ S1 fun x S2 => match x with
  | .ref n => isIns S2 n C ∧ DD.nx Γ (putFld S2 n f (.d y))
  | _ => False
theorem ps_fldset (c : Cls X.K C) (na : NoAttr X.K C f) (ho : PD X B o to') (hv : PD X B value tv) (hs : swapsWith value (some (.Attribute o f pos')) pos.line X.env = pure false := by rfl) :
    PSD X B (.Assign [.Attribute o f pos'] value pos) (dFldSet C f to' tv) := PS.weak (ps_fld ho hv hs) fun Dn σ H h => by
  obtain ⟨Z, S, Γ, fp, ofp, DD, r, h, ok⟩ := h
  refine ⟨Z, S, Γ, fp, ofp, _, r, h, fun y S1 h1 Z1 H1 fp1 vy r1 l1 b1 => ?_⟩
  refine ⟨Z1, S1, Γ, fp1, ofp, _, r1, h1, fun x S2 h2 Z2 H2 fp2 vx r2 l2 b2 => ?_⟩
  cases x with
  | ref n =>
    obtain ⟨⟨nm, ws, e1, hlen⟩, h3⟩ := h2
    cases b2
    unfold putFld at h3
    rw [e1] at h3
    obtain ⟨as, oc, _⟩ := r2.cell e1
    cases oc with
    | @ins _ dx _ fs _ as0 k1 k2 =>
      have hl := k2.len.1
      refine ⟨_, C, dx, fs, rfl, k1, c, na, by omega, ?_⟩
      obtain ⟨fp', r3⟩ := r2.putFV e1 k1 f (b1.up l2)
      exact ok.nx _ _ _ _ _ _ _ r3 h3
  | _ => exact False.elim h2
/-- o.f = a new list -/
def dFldSetF (C : Addr) (f : Str) (to' : DE) (tv : DA) : DS := fun DD Γ S => tv Γ S fun ds S1 => to' Γ S1 fun x S2 => match x with
  | .ref n => isIns S2 n C ∧ DD.nx Γ (putFld S2 n f (.own ds))
  | _ => False
def RefOnly (to' : DE) : Prop := ∀ Γ S (Q : D → Sto → Prop), to' Γ S Q → ∃ y, Q y S
theorem ps_fldsetF {tvF : DA} (i : Nat) {sx : Str} {sp' : Pos} (c : Cls X.K C) (na : NoAttr X.K C f) (hv : PF X B value tvF) (hN : X.N[i]? = some sx := by rfl) (hvis : Vis X.env.scope sx := by first | exact Or.inl rfl | exact Or.inr (Or.inl rfl) | exact Or.inr (Or.inr rfl)) (hd : (sx == ("__debug__" : Str)) = false := by decide)
    (hcd : (sx == ("__classdict__" : Str)) = false := by decide) (hs : swapsWith value (some (.Attribute (.Name sx sp') f pos')) pos.line X.env = pure false := by rfl) :
    PSD X B (.Assign [.Attribute (.Name sx sp') f pos'] value pos) (dFldSetF C f (dVar i) tvF) := PS.weak (ps_fld (pe_var hN hvis hd hcd) hv hs) fun Dn σ H h => by
  obtain ⟨Z, S, Γ, fp, ofp, DD, r, h, ok⟩ := h
  refine ⟨Z, S, Γ, fp, ofp, _, r, h, fun ds S1 h1 Z1 H1 fp1 p us r1 u1 e1 b1 m1 m2 m3 m4 => ?_⟩
  unfold dVar at h1
  split at h1
  · rename_i x e0
    obtain ⟨v, bs, e2, w, _⟩ := r1.gm.get e0
    refine ⟨v, e2, ?_⟩
    cases x with
    | ref n =>
      obtain ⟨⟨nm, ws, k0, hlen⟩, h3⟩ := h1
      unfold putFld at h3
      rw [k0] at h3
      cases w with
      | d dv =>
        cases dv with
        | ref hn =>
          obtain ⟨as, oc, _⟩ := r1.cell k0
          cases oc with
          | @ins _ dx _ fs _ as0 k1 k2 =>
            have hl := k2.len.1
            refine ⟨_, C, dx, fs, rfl, k1, c, na, by omega, ?_⟩
            obtain ⟨fp', r3⟩ := r1.putFO k0 k1 f e1 b1 m1 m2 m3 (r.ext.there _ m4)
            exact ok.nx _ _ _ _ _ _ _ r3 h3
    | _ => exact False.elim h1
  · exact h1.elim
/-! ### a method called, an object made -/
theorem pe_methS {pl : Sem Bool} {CX : CXT} {fA : Addr} {fd : FuncData} {sp : Sp} {E : L2.St → XK} {ta : TE} {t : TA} (he : PE X o ta) (c : Cls X.K C) (hm : Meth X.K C m fA) (F : FnOk X.prog X.w X.K X.mg X.base CX k fA fd ps sp) (hr : Room k X.A) (hb : Binds X.K fd ps []) (hx : ∀ σ, PassesAt CX X σ (E σ)) (ha : PA X (e :: es) t)
    (hst : starEach (e :: es) X.env = (false, eval e X.env) :: starEach es X.env := by rfl) (hpl : (backTo pos (starEach es X.env)).any (·.1) = false := by rfl)
    (ht : eval (.Call (.Attribute o m apos) (e :: es) [] pos) X.env = (do
      let ov ← eval o X.env
      standAt apos.atName
      let (f, first) ← holding [ov] (getMethod ov m pl)
      callWith pos f first (backTo pos (starEach (e :: es) X.env)) (backToKw pos (keywordEach [] X.env))) := by rfl) :
    PE X (.Call (.Attribute o m apos) (e :: es) [] pos) (fun σ H Q => ta σ H fun x H1 => ∃ a dx fs, x = .ref a ∧ H1 a = some (.ins C dx fs) ∧ fs.lookup m = none ∧ t σ H1 fun vs H2 => sp (x :: vs) H2 Q (E σ)) := by
  refine ⟨fun pins s σ H Q I h => ?_⟩
  refine PySem.W.methodCall_KW (pl := pl) (thn (he.run pins s σ H _ I h) fun u s1 ⟨x, H1, I1, rx, a, dx, fs, ex, ea, l, q⟩ => ?_) ht
  subst ex
  obtain rfl : u = Value.ref a := rx
  refine getmeth_ok I1 ea c hm l ?_
  refine PySem.W.callWith_K (first := [.ref a]) (h₀ := X.base) I.ok.mod.kin hm.kp (thn (ha.run pos pins s1 σ H1 _ I1 q) fun us s2 ⟨vs, H2, I2, r, q2⟩ => ⟨I2.kIn, ?_⟩) hst hpl
  exact run_fnS (us := .ref a :: us) (vs := .ref a :: vs) F hr hb (hx σ) I2 (.cons rfl r) q2
theorem pe_methS0 {pl : Sem Bool} {CX : CXT} {fA : Addr} {fd : FuncData} {sp : Sp} {E : L2.St → XK} {ta : TE} (he : PE X o ta) (c : Cls X.K C) (hm : Meth X.K C m fA) (F : FnOk X.prog X.w X.K X.mg X.base CX k fA fd ps sp) (hr : Room k X.A) (hb : Binds X.K fd ps []) (hx : ∀ σ, PassesAt CX X σ (E σ))
    (ht : eval (.Call (.Attribute o m apos) [] [] pos) X.env = (do
      let ov ← eval o X.env
      standAt apos.atName
      let (f, first) ← holding [ov] (getMethod ov m pl)
      callWith pos f first (backTo pos (starEach [] X.env)) (backToKw pos (keywordEach [] X.env))) := by rfl) :
    PE X (.Call (.Attribute o m apos) [] [] pos) (fun σ H Q => ta σ H fun x H1 => ∃ a dx fs, x = .ref a ∧ H1 a = some (.ins C dx fs) ∧ fs.lookup m = none ∧ sp [x] H1 Q (E σ)) := by
  refine ⟨fun pins s σ H Q I h => ?_⟩
  refine PySem.W.methodCall_KW (pl := pl) (thn (he.run pins s σ H _ I h) fun u s1 ⟨x, H1, I1, rx, a, dx, fs, ex, ea, l, q⟩ => ?_) ht
  subst ex
  obtain rfl : u = Value.ref a := rx
  refine getmeth_ok I1 ea c hm l ?_
  exact PySem.W.callWith_K0 (first := [.ref a]) I1.kIn hm.kp (run_fnS (us := [.ref a]) (vs := [.ref a]) F hr hb (hx σ) I1 (.cons rfl .nil) q)
theorem run_makeS {CX : CXT} {fA : Addr} {fd : FuncData} {sp : Sp} {E : L2.St → XK} {pins : List (Addr × Obj)} {σ : L2.St} {H : Hp} {s : Shared} {Q : VK} {us : List Value} {vs : List V} (M : Mk X.K C fA) (F : FnOk X.prog X.w X.K X.mg X.base CX k fA fd ps sp) (hr : Room (k + 1) X.A) (hb : Binds X.K fd ps []) (hx : PassesAt CX X σ (E σ)) (I : Inv X pins σ H s) (r : Vals vs us)
    (h : ∀ x dx, H x = none → H dx = none → dx ≠ x → sp (.ref x :: vs) (upd (upd H dx (.own x)) x (.ins C dx [])) (fun v H2 => v = .non ∧ Q (.ref x) H2) (E σ)) : wpAny (model X.prog X.w) X.A (call (.ref C) us) (EP X pins σ Q) X.xe s := by
  have hq := h (s.heap.objs.size + 1) s.heap.objs.size (I.hok.fresh (Nat.le_succ _)) (I.hok.fresh (Nat.le_refl _)) (Nat.ne_of_lt (Nat.lt_succ_self _))
  have I2 := Inv.made (C := C) I
  have r2 : Vals (V.ref (s.heap.objs.size + 1) :: vs) (Value.ref (s.heap.objs.size + 1) :: us) := .cons rfl r
  have hl : (Value.ref (s.heap.objs.size + 1) :: us).length = ps.length := by
    have e := r2.length
    rw [F.len _ _ _ _ hq] at e
    exact e.symm
  have bt := hb _ (Value.ref (s.heap.objs.size + 1) :: us) I2.kIn (by rw [List.append_nil]; exact hl)
  rw [List.append_nil] at bt
  refine wpAny_call (make_map (f := fA) I.kIn M.makes M.init (beq_iff_eq.mp M.fn) (codeAny_mono (F.run _ X.stack _ _ ⟨Value.ref (s.heap.objs.size + 1) :: us, []⟩ (Value.ref (s.heap.objs.size + 1) :: us) _ _ (E σ) (hr.make C us []) (I2.env0.make C us []) bt r2 hq) fun r s' hq' => ?_))
  cases r with
  | error e => exact hx pins _ _ e s' I2 hq'
  | ok fl =>
    cases fl with
    | ret u =>
      obtain ⟨v, H', I3, rv, ev, q3⟩ := I2.after hq'
      subst ev
      exact ⟨rv, ⟨V.ref (s.heap.objs.size + 1), H', I3, rfl, q3⟩⟩
    | next => exact False.elim hq'
    | brk => exact False.elim hq'
    | cont => exact False.elim hq'
/-- a method's promise, a class's -/
structure HasM (P : Program) (wd : World) (K : PySem.W.Frag) (mg : Str → Option Value) (base : Heap) (k : Nat) (C : Addr) (m : Str) (ps : List Str) (g : DSpec) : Prop where
  cl : Cls K C
  ex : ∃ (f : Addr) (fd : FuncData), Meth K C m f ∧ Binds K fd ps [] ∧ FnOk P wd K mg base (L2.CX P wd) k f fd ps (spS K g)
structure HasI (P : Program) (wd : World) (K : PySem.W.Frag) (mg : Str → Option Value) (base : Heap) (k : Nat) (x : Str) (C : Addr) (ps : List Str) (g : DSpec) : Prop where
  gm : mg x = some (.ref C)
  ex : ∃ (f : Addr) (fd : FuncData), Mk K C f ∧ Binds K fd ps [] ∧ FnOk P wd K mg base (L2.CX P wd) k f fd ps (spS K g)
/-- the object at x has no field of this name -/
def isObj (S : Sto) (C : Addr) (m : Str) (x : D) : Prop := ∃ n nm ws, x = .ref n ∧ cellAt S n = some (.ins C nm ws) ∧ lookW nm ws m = none
def dMethS (C : Addr) (m : Str) (g : DSpec) (ew : EW) (te : DE) (tr : DA) : DE := fun Γ S Q => te Γ S fun x S1 => isObj S1 C m x ∧ tr Γ S1 fun ds S2 => g (x :: ds) S2 (backD Q) fun c S3 => ew c Γ S3
def dMethSF (C : Addr) (m : Str) (g : DSpec) (ew : EW) (te : DE) (tr : DA) : DA := fun Γ S Q => te Γ S fun x S1 => isObj S1 C m x ∧ tr Γ S1 fun ds S2 => g (x :: ds) S2 (backF Q) fun c S3 => ew c Γ S3
theorem meth_run {E : L2.St → XK} (dx : DX X B w ew) {σ : L2.St} {H : Hp} {Q : VK} (h : liftD X.K B (dMethS C m g ew te tr) σ H Q) {t : TA} (ht : ∀ σ H Q', liftA X.K B tr σ H Q' → t σ H Q') : liftD X.K B te σ H fun x H1 => ∃ a d fs, x = .ref a ∧ H1 a = some (.ins C d fs) ∧ fs.lookup m = none ∧ t σ H1 fun vs H2 => spS X.K g (x :: vs) H2 Q (WE w σ) := by
  obtain ⟨Z, S, Γ, fp, ofp, P, r, h, q⟩ := h
  refine ⟨Z, S, Γ, fp, ofp, _, r, h, fun x S1 h1 Z1 H1 fp1 vx r1 u1 b1 => ?_⟩
  obtain ⟨⟨n, nm, ws, rfl, e1, e2⟩, h1⟩ := h1
  have b1' := b1
  cases b1 with
  | ref hn =>
    obtain ⟨as, oc, _⟩ := r1.cell e1
    cases oc with
    | @ins _ d _ fs _ as0 k1 k2 =>
      refine ⟨_, d, fs, rfl, k1, k2.miss e2, ht _ _ _ ⟨Z1, S1, Γ, fp1, ofp, _, r1, h1, fun ds S2 h2 Z2 H2 fp2 vs r2 u2 d2 => ?_⟩⟩
      refine ⟨Z2, S2, fp2, _, _, _, r2.st0, .cons (b1'.up u2) d2, h2, fun w2 S3 p3 Z3 H3 fp3 v3 s3 u3 b3 => ?_, fun c S3 p3 Z3 H3 fp3 s3 u3 => ?_⟩
      · have r3 := r2.called s3 u3
        cases w2 with
        | d x => exact q x S3 p3 Z3 H3 fp3 v3 r3 ((u1.trans u2).trans u3) b3
        | own es =>
          obtain ⟨a, xs, rfl, f2, d3, n1, n2, n3⟩ := b3
          have ut := (u1.trans u2).trans u3
          have na : a ∉ ofp := fun m => by
            obtain ⟨o, e⟩ := r2.ownThere a (List.mem_append_right _ m)
            rw [n3] at e
            cases e
          have n4 := (u1.trans u2).there a n3
          exact q _ S3 p3 _ H3 fp3 _ (r3.freeze f2 n1 n2 na (r.ext.there _ n4)) (ut.addF n4 n1) (.lst (SqL.of (show upd Z3.F a (.lst xs) a = _ from upd_same)) (d3.mono (le_frz n1)))
      · exact dx.ok _ _ _ _ _ _ _ _ (r2.called s3 u3) p3
theorem methF_run {E : L2.St → XK} (dx : DX X B w ew) {σ : L2.St} {H : Hp} {Q : VK} (h : liftO X.K B (dMethSF C m g ew te tr) σ H Q) {t : TA} (ht : ∀ σ H Q', liftA X.K B tr σ H Q' → t σ H Q') : liftD X.K B te σ H fun x H1 => ∃ a d fs, x = .ref a ∧ H1 a = some (.ins C d fs) ∧ fs.lookup m = none ∧ t σ H1 fun vs H2 => spS X.K g (x :: vs) H2 Q (WE w σ) := by
  obtain ⟨Z, S, Γ, fp, ofp, P, r, h, q⟩ := h
  refine ⟨Z, S, Γ, fp, ofp, _, r, h, fun x S1 h1 Z1 H1 fp1 vx r1 u1 b1 => ?_⟩
  obtain ⟨⟨n, nm, ws, rfl, e1, e2⟩, h1⟩ := h1
  have b1' := b1
  cases b1 with
  | ref hn =>
    obtain ⟨as, oc, _⟩ := r1.cell e1
    cases oc with
    | @ins _ d _ fs _ as0 k1 k2 =>
      refine ⟨_, d, fs, rfl, k1, k2.miss e2, ht _ _ _ ⟨Z1, S1, Γ, fp1, ofp, _, r1, h1, fun ds S2 h2 Z2 H2 fp2 vs r2 u2 d2 => ?_⟩⟩
      refine ⟨Z2, S2, fp2, _, _, _, r2.st0, .cons (b1'.up u2) d2, h2, fun w2 S3 p3 Z3 H3 fp3 v3 s3 u3 b3 => ?_, fun c S3 p3 Z3 H3 fp3 s3 u3 => ?_⟩
      · have r3 := r2.called s3 u3
        cases w2 with
        | d x => exact False.elim p3
        | own es =>
          obtain ⟨a, xs, rfl, f2, d3, n1, n2, n3⟩ := b3
          have na : a ∉ ofp := fun m => by
            obtain ⟨o, e⟩ := r2.ownThere a (List.mem_append_right _ m)
            rw [n3] at e
            cases e
          exact q _ S3 p3 Z3 H3 fp3 _ _ r3 ((u1.trans u2).trans u3) f2 d3 n1 n2 na ((u1.trans u2).there a n3)
      · exact dx.ok _ _ _ _ _ _ _ _ (r2.called s3 u3) p3
theorem pd_meth (dx : DX X B w ew) (h : HasM X.prog X.w X.K X.mg X.base k C m ps g) (hr : Room k X.A) (he : PD X B o te) (ha : PAD X B (e :: es) tr)
    (hst : starEach (e :: es) X.env = (false, eval e X.env) :: starEach es X.env := by rfl) (hpl : (backTo pos (starEach es X.env)).any (·.1) = false := by rfl) {pl : Sem Bool}
    (ht : eval (.Call (.Attribute o m apos) (e :: es) [] pos) X.env = (do
      let ov ← eval o X.env
      standAt apos.atName
      let (f, first) ← holding [ov] (getMethod ov m pl)
      callWith pos f first (backTo pos (starEach (e :: es) X.env)) (backToKw pos (keywordEach [] X.env))) := by rfl) :
    PD X B (.Call (.Attribute o m apos) (e :: es) [] pos) (dMethS C m g ew te tr) := by
  obtain ⟨f, fd, h1, h2, h3⟩ := h.ex
  exact PE.weak (pe_methS he h.cl h1 h3 hr h2 (fun σ => passAt dx.tk σ) ha hst hpl ht) fun σ H Q hh => meth_run (E := WE w) dx hh fun _ _ _ z => z
theorem pf_meth (dx : DX X B w ew) (h : HasM X.prog X.w X.K X.mg X.base k C m ps g) (hr : Room k X.A) (he : PD X B o te) (ha : PAD X B (e :: es) tr)
    (hst : starEach (e :: es) X.env = (false, eval e X.env) :: starEach es X.env := by rfl) (hpl : (backTo pos (starEach es X.env)).any (·.1) = false := by rfl) {pl : Sem Bool}
    (ht : eval (.Call (.Attribute o m apos) (e :: es) [] pos) X.env = (do
      let ov ← eval o X.env
      standAt apos.atName
      let (f, first) ← holding [ov] (getMethod ov m pl)
      callWith pos f first (backTo pos (starEach (e :: es) X.env)) (backToKw pos (keywordEach [] X.env))) := by rfl) :
    PF X B (.Call (.Attribute o m apos) (e :: es) [] pos) (dMethSF C m g ew te tr) := by
  obtain ⟨f, fd, h1, h2, h3⟩ := h.ex
  exact PE.weak (pe_methS he h.cl h1 h3 hr h2 (fun σ => passAt dx.tk σ) ha hst hpl ht) fun σ H Q hh => methF_run (E := WE w) dx hh fun _ _ _ z => z
theorem pd_meth0 (dx : DX X B w ew) (h : HasM X.prog X.w X.K X.mg X.base k C m ps g) (hr : Room k X.A) (he : PD X B o te) {pl : Sem Bool}
    (ht : eval (.Call (.Attribute o m apos) [] [] pos) X.env = (do
      let ov ← eval o X.env
      standAt apos.atName
      let (f, first) ← holding [ov] (getMethod ov m pl)
      callWith pos f first (backTo pos (starEach [] X.env)) (backToKw pos (keywordEach [] X.env))) := by rfl) :
    PD X B (.Call (.Attribute o m apos) [] [] pos) (dMethS C m g ew te dNil) := by
  obtain ⟨f, fd, h1, h2, h3⟩ := h.ex
  exact PE.weak (pe_methS0 he h.cl h1 h3 hr h2 (fun σ => passAt dx.tk σ) ht) fun σ H Q hh => meth_run (E := WE w) (t := fun _ H Q => Q [] H) dx hh fun _ _ _ h => by
    obtain ⟨Z, S, Γ, fp, ofp, P, r, h, q⟩ := h
    exact q _ _ h Z _ fp [] r (.refl _ _ _) .nil
def dMakeS (C : Addr) (g : DSpec) (ew : EW) (tr : DA) : DE := fun Γ S Q => tr Γ S fun ds S1 => g (.ref S1.length :: ds) (S1 ++ [.ins C [] []]) (fun w S2 => w = .d .non ∧ Q (.ref S1.length) S2) fun c S2 => ew c Γ S2
theorem pd_make (dx : DX X B w ew) (h : HasI X.prog X.w X.K X.mg X.base k x C ps g) (hr : Room (k + 1) X.A) (ha : PAD X B (e :: es) tr)
    (hg : Gl X x := by rfl) (hdb : (x == ("__debug__" : Str)) = false := by decide) (he : starEach (e :: es) X.env = (false, eval e X.env) :: starEach es X.env := by rfl) (hpl : (backTo pos (starEach es X.env)).any (·.1) = false := by rfl) :
    PD X B (.Call (.Name x p) (e :: es) [] pos) (dMakeS C g ew tr) := by
  obtain ⟨f, fd, M, h2, h3⟩ := h.ex
  refine ⟨fun pins s σ H Q I hh => ?_⟩
  obtain ⟨Z, S, Γ, fp, ofp, P, r, hh, q⟩ := hh
  refine wpAny_Call_Name_kw (ld_glob I hg h.gm ?_ hdb)
  refine PySem.W.callWith_K (h₀ := X.base) I.ok.mod.kin M.kp (thn (ha.run pos pins s σ H _ I ⟨Z, S, Γ, fp, ofp, _, r, hh, fun ds S1 h1 Z1 H1 fp1 vs r1 u1 d1 => ?_⟩) fun us s1 ⟨vs, H1, I1, rv, qq⟩ => ⟨I1.kIn, run_makeS M h3 hr h2 (passAt dx.tk σ) I1 rv qq⟩) he hpl
  intro y dy ny ndy ne
  have r2 := r1.grow (p := dy) (o := .own y) ndy
  have ny2 : upd H1 dy (.own y) y = none := by rw [upd_ne (Ne.symm ne)]; exact ny
  have r3 := r2.box (p := y) (ho := .ins C dy []) (o := .ins C [] []) ny2 fun Z' H' _ e => .ins e .nil
  have up : Up Z1 H1 fp1 (Z1.more y) (upd (upd H1 dy (.own y)) y (.ins C dy [])) (fp1 ++ [y]) := (Up.grow ndy).trans (Up.box ny2)
  have hk := r1.kk
  have dvn : DV X.K (Z1.more y) (.ref y) (.ref S1.length) := by
    have : (Z1.more y).ρ S1.length = y := if_pos hk.symm
    have d := DV.ref (K := X.K) (Z := Z1.more y) (n := S1.length) (by show _ < Z1.k + 1; omega)
    rw [this] at d
    exact d
  refine ⟨Z1.more y, S1 ++ [.ins C [] []], fp1 ++ [y], .ref S1.length :: ds, _, _, r3.st0, .cons dvn (d1.up up), h1, fun w2 S2 p2 Z2 H2 fp2 v2 s2 u2 b2 => ?_, fun c S2 p2 Z2 H2 fp2 s2 u2 => dx.ok _ _ _ _ _ _ _ _ (r3.called s2 u2) p2⟩
  obtain ⟨rfl, p2⟩ := p2
  cases b2
  exact ⟨rfl, q _ S2 p2 Z2 H2 fp2 _ (r3.called s2 u2) ((u1.trans up).trans u2) (dvn.up u2)⟩
end
end DL
namespace DL
open PySem PySem.Spec PyProof.Rows L2
/-! ### lists as cells -/
theorem upd_self {H : Hp} {p : Addr} {o : HO} (h : H p = some o) : upd H p o = H := by
  funext b
  by_cases z : b = p
  · rw [z, upd_same, h]
  · rw [upd_ne z]
section
variable {X : Cx} {B : Bs} {a b c e o elt : Expr} {te to' ti : DE} {to : DA} {tt : DT} {pos : Pos} {ts : DS}
def dBox (to : DA) : DE := fun Γ S Q => to Γ S fun ds S1 => Q (.ref S1.length) (S1 ++ [.lst ds])
theorem pd_box (h : PF X B e to) : PD X B e (dBox to) := PE.weak h fun σ H Q h => by
  obtain ⟨Z, S, Γ, fp, ofp, P, r, h, q⟩ := h
  refine ⟨Z, S, Γ, fp, ofp, _, r, h, fun ds S1 p1 Z1 H1 fp1 p us r1 u1 e1 d1 n1 n2 n3 n4 => ?_⟩
  have r2 := r1.boxG (o := .lst ds) (ho := .lst us) n2 n3 n1 (r.ext.there _ n4) fun Z' H' le g => .lst g (d1.mono le)
  rw [upd_self e1] at r2
  have hk := r1.kk
  have le := le_more (Z := Z1) (p := p)
  refine q _ _ p1 _ _ _ _ r2 ⟨u1.le.trans le, u1.keep, fun a m => ?_, u1.there, u1.frz⟩ ?_
  · rcases List.mem_append.mp m with m | m
    · exact u1.new a m
    · rw [List.mem_singleton.mp m]
      exact .inr n4
  · have : (Z1.more p).ρ S1.length = p := if_pos hk.symm
    have d := DV.ref (K := X.K) (Z := Z1.more p) (n := S1.length) (by show _ < Z1.k + 1; omega)
    rw [this] at d
    exact d
/-- the list of a cell -/
def isL (S : Sto) (x : D) : Prop := ∃ m ds, x = .ref m ∧ cellAt S m = some (.lst ds)
def dAppC (to' te : DE) : DS := fun DD Γ S => to' Γ S fun x S1 => isL S1 x ∧ te Γ S1 fun y S2 => ∃ m ds, x = .ref m ∧ cellAt S2 m = some (.lst ds) ∧ sz (ds.length + 1) ∧ DD.nx Γ (S2.set m (.lst (ds ++ [y])))
theorem ps_dappC {p2 p3 : Pos} (ho : PD X B o to') (he : PD X B e te)
    (h : ∀ {to2 te2 : TE}, PE X o to2 → PE X e te2 → PS X (.Expr (.Call (.Attribute o "append" p2) [e] [] p3) pos) (tDrop (tBM X.K "list" rAppend to2 (tCons te2 tNil))) := by
      exact fun h h2 => ps_expr (pe_bm PySem.F.plainAttrs_list PySem.F.slot_list_append PySem.F.type_list_append mt_append h (pa_cons h2 pa_nil))) :
    PSD X B (.Expr (.Call (.Attribute o "append" p2) [e] [] p3) pos) (dAppC to' te) := PS.weak (h ho he) fun Dn σ H h => by
  obtain ⟨Z, S, Γ, fp, ofp, DD, r, h, ok⟩ := h
  refine ⟨Z, S, Γ, fp, ofp, _, r, h, fun x S1 h1 Z1 H1 fp1 v r1 u1 b1 => ?_⟩
  obtain ⟨⟨m, ds, rfl, e1⟩, h1⟩ := h1
  cases b1 with
  | ref hn =>
    obtain ⟨as, oc, _⟩ := r1.cell e1
    cases oc with
    | lst k1 k2 =>
      refine ⟨.inl ⟨rfl, _, SqL.of k1⟩, ?_⟩
      refine ⟨Z1, S1, Γ, fp1, ofp, _, r1, h1, fun y S2 h2 Z2 H2 fp2 vy r2 u2 b2 => ?_⟩
      obtain ⟨m', ds2, em, e2, hz, h2⟩ := h2
      cases em
      obtain ⟨as2, oc2, _⟩ := r2.cell e2
      cases oc2 with
      | @lst xs2 _ g1 g2 =>
        have er := u2.le.r m hn
        rw [er] at g1
        refine ⟨_, xs2, vy, rfl, rfl, g1, ?_, ?_⟩
        · rw [g2.length]
          exact Nat.lt_of_lt_of_le (Nat.lt_succ_self _) hz.ok
        · have r3 := r2.put (o' := .lst (ds2 ++ [y])) (ho := .lst (xs2 ++ [vy])) e2 fun as oc => by
            cases oc with
            | lst k1' k2' =>
              rw [er, g1] at k1'
              cases k1'
              exact ⟨⟨[], rfl⟩, fun H' g _ _ => .lst g (k2'.append (.cons b2 .nil))⟩
          rw [er] at r3
          exact ok.nx _ _ _ _ _ _ _ r3 h2
/-! ### walks over them -/
def ItOkC (K : PySem.W.Frag) (B : Bs) (Z0 : Fz) (J : It) (C : Sto → Prop) (xs : List D) : Prop := ∀ (i : Nat) (Z : Fz) (S : Sto) (Γ : Gm) (σ : L2.St) (H : Hp) (fp ofp : List Addr), R K B Z S Γ σ H fp ofp → Z0.le Z → C S →
  (∀ x, xs[i]? = some x → J.go i H ∧ ∀ v H', J.yld i H v H' → ∃ Z', R K B Z' S Γ σ H' fp ofp ∧ Up Z H fp Z' H' fp ∧ DV K Z' v x) ∧ (xs[i]? = none → J.stop i H)
def liftIC (K : PySem.W.Frag) (B : Bs) (ti : DE) : TI := fun σ H Rr => ∃ Z S Γ fp ofp P, R K B Z S Γ σ H fp ofp ∧ ti Γ S P ∧
  ∀ x S', P x S' → ∀ Z' H' fp', R K B Z' S' Γ σ H' fp' ofp → Up Z H fp Z' H' fp' → ∀ J, (∀ xs, ItOkC K B Z' J (fun S => der S x = .lst xs) xs) → Rr J H'
abbrev PIC (X : Cx) (B : Bs) (tg iter : Expr) (ti : DE) : Prop := PI X tg iter (liftIC X.K B ti)
theorem it_cell {K : PySem.W.Frag} {B : Bs} {Z : Fz} {a : Addr} {x : D} (dv : DV K Z (.ref a) x) (xs : List D) : ItOkC K B Z (Itl K a) (fun S => der S x = .lst xs) xs := fun i Z1 S Γ σ H fp ofp r l hC => by
  have dv1 := dv.mono l
  have bq : BQ K Z1 S σ Γ (.ref a) (der S x) := BV.der (.inl dv1)
  rw [hC] at bq
  obtain ⟨a', us, ea, hH, d⟩ := bq.list r
  cases ea
  refine ⟨fun x e => ?_, fun e => ⟨us, hH, ?_⟩⟩
  · obtain ⟨v, e1, dv⟩ := d.getD e
    refine ⟨⟨us, v, hH, e1⟩, fun w H' y => ?_⟩
    obtain ⟨rfl, y⟩ := y
    have e2 := y us hH
    rw [e1] at e2
    cases e2
    exact ⟨Z1, r, .refl _ _ _, dv⟩
  · rw [d.length]
    exact List.getElem?_eq_none_iff.mp e
/-- what is walked is a list now -/
def dWlC (te : DE) : DE := fun Γ S Q => te Γ S fun x S1 => (∃ xs, der S1 x = .lst xs) ∧ Q x S1
theorem pi_dlistC {tg : Expr} (he : PD X B e te) : PIC X B tg e (dWlC te) := PI.weak (pi_list he) fun σ H Rr h => by
  obtain ⟨Z, S, Γ, fp, ofp, P, r, h, q⟩ := h
  refine ⟨Z, S, Γ, fp, ofp, _, r, h, fun d S1 p1 Z1 H1 fp1 v1 r1 l1 dv1 => ?_⟩
  obtain ⟨⟨xs, ex⟩, p1⟩ := p1
  have bq : BQ X.K Z1 S1 σ Γ v1 (der S1 d) := BV.der (.inl dv1)
  rw [ex] at bq
  obtain ⟨a, us, rfl, hH, _⟩ := bq.list r1
  exact ⟨a, rfl, ⟨us, hH⟩, q _ S1 p1 Z1 H1 fp1 r1 l1 _ (it_cell dv1)⟩
def forLC (C : Sto → Prop) (dg : DG) (body : DS) : List D → DS
  | [], DD, Γ, S => C S ∧ DD.nx Γ S
  | x :: r, DD, Γ, S => C S ∧ dg x Γ fun Γ1 => body { DD with nx := forLC C dg body r DD, ct := forLC C dg body r DD, bk := DD.nx } Γ1 S
def dForC (ti : DE) (dg : DG) (body : DS) : DS := fun DD Γ S => ti Γ S fun x S1 => ∃ xs, der S1 x = .lst xs ∧ forLC (fun S => der S x = .lst xs) dg body xs DD Γ S1
theorem ps_dforC {iter tg : Expr} {body : List Stmt} {dg : DG} (hp : PassesOwn (model X.prog X.w) X.A X.env X.xe) (hc : X.calm = true) (hi : PIC X B tg iter ti) (hg : PGD X tg dg) (hb : ∀ B', B.up B' → PSsD X B' body ts)
    (k : ∀ {wi' : TI} {g' : TG} {tb' : TS}, PassesOwn (model X.prog X.w) X.A X.env X.xe → X.calm = true → PI X tg iter wi' → PG X tg g' → PSs X body tb' → PS X (.For tg iter body [] pos) (tFor wi' g' tb') := by exact fun h1 h2 h h' h'' => ps_for h1 h2 h h' h'') :
    PSD X B (.For tg iter body [] pos) (dForC ti dg ts) := by
  obtain ⟨g, p, o⟩ := hg
  refine ⟨fun pins s σ H Dn I h => ?_⟩
  refine (k (tb' := fun Dn' σ' H' => ∃ B', B.up B' ∧ liftS X.K B' ts Dn' σ' H') hp hc hi p ⟨fun pins s σ H D I ⟨B', u, h⟩ => (hb B' u).run pins s σ H D I h⟩).run pins s σ H Dn I ?_
  obtain ⟨Z, S, Γ, fp, ofp, DD, r, h, ok⟩ := h
  refine ⟨Z, S, Γ, fp, ofp, _, r, h, fun x0 S1 p1 Z1 H1 fp1 r1 l1 J hJ => ?_⟩
  obtain ⟨xs, _, p1⟩ := p1
  refine ⟨fun i m σ' H' => m = xs.length - i ∧ i ≤ xs.length ∧ ∃ Z' S' Γ' fp' ofp', R X.K B Z' S' Γ' σ' H' fp' ofp' ∧ Z1.le Z' ∧ forLC (fun S => der S x0 = .lst xs) dg ts (xs.drop i) DD Γ' S',
    ⟨_, rfl, Nat.zero_le _, Z1, S1, Γ, fp1, ofp, r1, .refl _, p1⟩, ?_⟩
  rintro i m σ' H' ⟨rfl, hi, Z', S', Γ', fp', ofp', r', l', q'⟩
  have hC : der S' x0 = .lst xs := by
    cases ed : xs.drop i with
    | nil => rw [ed] at q'; exact q'.1
    | cons a b => rw [ed] at q'; exact q'.1
  obtain ⟨yes, no⟩ := hJ xs i Z' S' Γ' σ' H' fp' ofp' r' l' hC
  by_cases hlt : i < xs.length
  · have e : xs.drop i = xs[i] :: xs.drop (i + 1) := List.drop_eq_getElem_cons hlt
    rw [e] at q'
    have q' := q'.2
    obtain ⟨go, yld⟩ := yes xs[i] (List.getElem?_eq_getElem hlt)
    refine .inr ⟨go, fun σ2 H2 => ∃ Z' S' Γ' fp' ofp', R X.K B Z' S' Γ' σ2 H2 fp' ofp' ∧ Z1.le Z' ∧ forLC (fun S => der S x0 = .lst xs) dg ts (xs.drop (i + 1)) DD Γ' S', fun σ2 H2 n => ⟨xs.length - (i + 1), by omega, rfl, hlt, n⟩, fun v H2 y => ?_⟩
    obtain ⟨Z2, r2, l2, dv⟩ := yld v H2 y
    have up2 : B.up (B.at Z2) := Bs.at_up r2.ext.fl
    refine o (B.at Z2) (r2.raise (.refl _)) dv q' fun Γ3 p3 σ3 Z3 ofp3 r3 l3 => ?_
    refine ⟨B.at Z2, up2, Z3, S', Γ3, fp', ofp3, _, r3, p3, ?_⟩
    have ll : Z1.le Z2 := l'.trans l2.le
    exact ⟨fun Z4 S4 Γ4 σ4 H4 fp4 ofp4 r4 n4 => ⟨Z4, S4, Γ4, fp4, ofp4, r4.lower up2, ll.trans r4.ext.fl, n4⟩, fun Z4 S4 Γ4 σ4 H4 fp4 ofp4 r4 n4 => ok.nx Z4 S4 Γ4 σ4 H4 fp4 ofp4 (r4.lower up2) n4,
      fun Z4 S4 Γ4 σ4 H4 fp4 ofp4 r4 n4 => ⟨Z4, S4, Γ4, fp4, ofp4, r4.lower up2, ll.trans r4.ext.fl, n4⟩, fun Z4 S4 Γ4 σ4 H4 fp4 ofp4 w4 v4 r4 b4 n4 => ok.rt Z4 S4 Γ4 σ4 H4 fp4 ofp4 w4 v4 (r4.lower up2) (by cases w4 <;> exact b4) n4⟩
  · have e : xs.drop i = [] := List.drop_eq_nil_of_le (by omega)
    rw [e] at q'
    have q' := q'.2
    exact .inl ⟨no (List.getElem?_eq_none (by omega)), ok.nx _ _ _ _ _ _ _ r' q'⟩
def compLC (C : Sto → Prop) (dg : DG) (t : DT) (te : DE) : List D → Gm → List D → Sto → (List D → Sto → Prop) → Prop
  | [], _, acc, S, Q => C S ∧ Q acc S
  | x :: r, Γ, acc, S, Q => C S ∧ dg x Γ fun Γ1 => t Γ1 S fun b S1 => (b = true → te Γ1 S1 fun y S2 => sz (acc.length + 1) ∧ compLC C dg t te r Γ (acc ++ [y]) S2 Q) ∧
    (b = false → compLC C dg t te r Γ acc S1 Q)
def dCompC (ti : DE) (dg : DG) (t : DT) (te : DE) (vs : List Nat) : DA := fun Γ S Q => ti Γ S fun x S1 => ∃ xs, der S1 x = .lst xs ∧ compLC (fun S => der S x = .lst xs) dg t te xs (wipeG Γ vs) [] S1 Q
theorem pf_compC {K : PySem.W.Frag} {vs : List Nat} {ti : DE} {g : TG} {dg : DG} (gc : GComp K B vs g dg)
    (σ : L2.St) (H : Hp) (Q : VK) (h : liftO K B (dCompC ti dg tt te vs) σ H Q) : tLc (liftIC K B ti) g (liftT K B tt) (liftD K B te) vs σ H Q := by
  obtain ⟨Z, S, Γ, fp, ofp, P, r, h, q⟩ := h
  refine ⟨Z, S, Γ, fp, ofp, _, r, h, fun x0 S1 p1 Z1 H1 fp1 r1 l1 J hJ => fun Dl hD => ?_⟩
  obtain ⟨xs, _, p1⟩ := p1
  obtain ⟨nd1, nd2, nd3, nd4⟩ := r1.fresh hD
  obtain ⟨o0, r0, s0⟩ := r1.wipe vs
  have W0 : Up Z1 H1 fp1 Z1 (upd H1 Dl (.lst [])) fp1 := Up.grow hD
  refine ⟨fun i m H' => m = xs.length - i ∧ i ≤ xs.length ∧ ∃ Z' S' fp' ofp' acc accV, R K B Z' S' (wipeG Γ vs) (L2.wipe σ vs) H' fp' ofp' ∧ Up Z1 H1 fp1 Z' H' fp' ∧
      H' Dl = some (.lst accV) ∧ DVs K Z' accV acc ∧ Dl ∉ fp' ∧ Dl ∉ ofp' ∧ Z'.F Dl = none ∧ compLC (fun S => der S x0 = .lst xs) dg tt te (xs.drop i) (wipeG Γ vs) acc S' P,
    ⟨_, rfl, Nat.zero_le _, Z1, S1, fp1, o0, [], [], r0.grow hD, W0, upd_same, .nil, nd1, fun m => nd2 (s0 _ m), nd3, p1⟩, ?_⟩
  rintro i m H' ⟨rfl, hi, Z', S', fp', ofp', acc, accV, r', u', eD, dD, n1, n2, n3, c'⟩
  have hC : der S' x0 = .lst xs := by
    cases ed : xs.drop i with
    | nil => rw [ed] at c'; exact c'.1
    | cons a b => rw [ed] at c'; exact c'.1
  obtain ⟨yes, no⟩ := hJ xs i Z' S' _ _ H' fp' ofp' r' u'.le hC
  by_cases hlt : i < xs.length
  · have e : xs.drop i = xs[i] :: xs.drop (i + 1) := List.drop_eq_getElem_cons hlt
    rw [e] at c'
    have c' := c'.2
    obtain ⟨go, yld⟩ := yes xs[i] (List.getElem?_eq_getElem hlt)
    refine .inr ⟨go, fun H2 => ∃ Z' S' fp' ofp' acc accV, R K B Z' S' (wipeG Γ vs) (L2.wipe σ vs) H2 fp' ofp' ∧ Up Z1 H1 fp1 Z' H2 fp' ∧
      H2 Dl = some (.lst accV) ∧ DVs K Z' accV acc ∧ Dl ∉ fp' ∧ Dl ∉ ofp' ∧ Z'.F Dl = none ∧ compLC (fun S => der S x0 = .lst xs) dg tt te (xs.drop (i + 1)) (wipeG Γ vs) acc S' P, fun H2 n => ⟨xs.length - (i + 1), by omega, rfl, hlt, n⟩, fun v H2 y => ?_⟩
    obtain ⟨Z2, r2, u2, dv⟩ := yld v H2 y
    refine gc r2 dv c' fun Γ3 p3 σ3 ofp3 r3 w3 w3' sub3 => ⟨w3, ?_⟩
    refine ⟨Z2, S', Γ3, fp', ofp3, _, r3, p3, fun k S4 h4 Z4 H4 fp4 r4 u4 => ?_⟩
    have frzD : ∀ {Zb : Fz} {Hb : Hp} {fpb : List Addr}, Up Z' H' fp' Zb Hb fpb → Zb.F Dl = none := fun {Zb Hb fpb} u => by
      cases qq : Zb.F Dl with
      | none => rfl
      | some o =>
        rcases u.frz Dl n3 (by rw [qq]; simp) with z | z
        · rw [z] at eD
          cases eD
        · exact absurd z n1
    have nfp : ∀ {Zb : Fz} {Hb : Hp} {fpb : List Addr}, Up Z' H' fp' Zb Hb fpb → Dl ∉ fpb := fun {Zb Hb fpb} u m => by
      rcases u.new Dl m with z | z
      · exact n1 z
      · rw [z] at eD
        cases eD
    cases k with
    | true =>
      refine iteT ?_
      refine ⟨Z4, S4, Γ3, fp4, ofp3, _, r4, h4.1 rfl, fun y5 S5 h5 Z5 H5 fp5 v5 r5 u5 dv5 => ?_⟩
      have uu := (u2.trans u4).trans u5
      have e5 := uu.keep Dl _ eD n1
      obtain ⟨hz, h5⟩ := h5
      refine ⟨accV, e5, by rw [dD.length]; exact Nat.lt_of_lt_of_le (Nat.lt_succ_self _) hz.ok, ?_⟩
      obtain ⟨o6, r6, s6⟩ := r5.wipe vs
      rw [w3, w3'] at r6
      have no6 : Dl ∉ o6 := fun m => n2 (sub3 _ (s6 _ m))
      refine ⟨Z5, S5, fp5, o6, acc ++ [y5], accV ++ [v5], r6.other (nfp uu) no6 (frzD uu) (r1.ext.there Dl hD), ?_, upd_same, (dD.mono uu.le).append (.cons dv5 .nil), nfp uu, no6, frzD uu, h5⟩
      have ut := u'.trans uu
      refine ⟨ut.le, fun a o ea na => ?_, ut.new, fun a ea => ?_, ut.frz⟩
      · rw [upd_ne (ne_of_none ea hD)]
        exact ut.keep a o ea na
      · by_cases z : a = Dl
        · rw [z]
          exact hD
        · rw [upd_ne z] at ea
          exact ut.there a ea
    | false =>
      refine iteF ?_
      have uu := u2.trans u4
      have e5 := uu.keep Dl _ eD n1
      obtain ⟨o6, r6, s6⟩ := r4.wipe vs
      rw [w3, w3'] at r6
      exact ⟨Z4, S4, fp4, o6, acc, accV, r6, u'.trans uu, e5, dD.mono uu.le, nfp uu, fun m => n2 (sub3 _ (s6 _ m)), frzD uu, h4.2 rfl⟩
  · have e : xs.drop i = [] := List.drop_eq_nil_of_le (by omega)
    rw [e] at c'
    have c' := c'.2
    refine .inl ⟨no (List.getElem?_eq_none (by omega)), ?_⟩
    exact q acc S' c' Z' H' fp' Dl accV (r1.back r' u') (l1.trans u') eD dD n3 n1 nd2 (l1.there _ hD)
theorem pf_lcC {elt tg iter : Expr} {ifs : List Expr} {scope : Scope} {own : List (Str × Nat)} {ti : DE} {g : TG} {dg : DG} (hc : X.calm = true) (hN : X.N.Nodup) (hi : PIC X B tg iter ti) (ok : BlkOk X.N X.env.scope scope own)
    (hg : ∀ (s : Shared) (H : Hp) (C : Addr) (cl : List (Str × Addr)) (fp : List Addr), PG (X.blk s H scope (compEnvC scope cl C X.env) fp) tg g) (gc : GComp X.K B (own.map (·.2)) g dg)
    (ht : ∀ (s : Shared) (H : Hp) (C : Addr) (cl : List (Str × Addr)) (fp : List Addr), PTs (X.blk s H scope (compEnvC scope cl C X.env) fp) ifs (liftT X.K B tt))
    (he : ∀ (s : Shared) (H : Hp) (C : Addr) (cl : List (Str × Addr)) (fp : List Addr), PE (X.blk s H scope (compEnvC scope cl C X.env) fp) elt (liftD X.K B te))
    (k : ∀ {wi' : TI} {g' : TG} {tt' : TT} {te' : TE}, X.calm = true → X.N.Nodup → BlkOk X.N X.env.scope scope own → PI X tg iter wi' → (∀ (s : Shared) (H : Hp) (C : Addr) (cl : List (Str × Addr)) (fp : List Addr), PG (X.blk s H scope (compEnvC scope cl C X.env) fp) tg g') →
      (∀ (s : Shared) (H : Hp) (C : Addr) (cl : List (Str × Addr)) (fp : List Addr), PTs (X.blk s H scope (compEnvC scope cl C X.env) fp) ifs tt') → (∀ (s : Shared) (H : Hp) (C : Addr) (cl : List (Str × Addr)) (fp : List Addr), PE (X.blk s H scope (compEnvC scope cl C X.env) fp) elt te') →
      PE X (.ListComp elt [⟨tg, iter, ifs, 0⟩] scope pos) (tLc wi' g' tt' te' (own.map (·.2))) := by exact fun h1 h2 h3 a b c d => pe_lc h1 h2 a h3 b c d) :
    PF X B (.ListComp elt [⟨tg, iter, ifs, 0⟩] scope pos) (dCompC ti dg tt te (own.map (·.2))) := PE.weak (k hc hN ok hi hg ht he) (pf_compC gc)
end
end DL
namespace DL
open PySem PySem.Spec PyProof.Rows L2
/-! ### methods, by what the top has written -/
structure RawM (K : PySem.W.Frag) (C : Addr) (m q : Str) (st : Stmt) (ps : List Str) : Prop where
  cl : Cls K C
  ex : ∃ (f : Addr) (fd : FuncData), Meth K C m f ∧ Binds K fd ps [] ∧ Fun K m q st f fd
structure RawI (K : PySem.W.Frag) (mg : Str → Option Value) (x : Str) (C : Addr) (q : Str) (st : Stmt) (ps : List Str) : Prop where
  gm : mg x = some (.ref C)
  ex : ∃ (f : Addr) (fd : FuncData), Mk K C f ∧ Binds K fd ps [] ∧ Fun K "__init__" q st f fd
section
variable {P : Program} {wd : World} {K : PySem.W.Frag} {mg : Str → Option Value} {base : Heap} {N ps : List Str} {j : Nat} {st : Stmt} {g : DSpec} {x m q : Str} {C : Addr}
theorem hasm_ok (r : RawM K C m q st ps) (Sc : FnScope N ps (defScope st)) (len : ∀ ds S P EP, g ds S P EP → ds.length = ps.length)
    (body : ∀ (f : Addr) (cdv : Value) (A : Around) (outer : List Env) (s : Shared) (H : Hp) (E : XK) (B : Bs) (P0 : W → Sto → Prop) (EP : Value → Sto → Prop) (ds : List D) (S : Sto), Room j (A.deeper (envOfC q (defScope st) s.heap.objs.size f cdv)) →
      DX (cxOf (L2.CX P wd) P wd K mg base N q (defScope st) f cdv A outer s H E) B (fun cls d _ H => E cls d H) (fun c _ S => EP c S) → g ds S P0 EP →
      ∃ ts, PSsD (cxOf (L2.CX P wd) P wd K mg base N q (defScope st) f cdv A outer s H E) B (defBody st) ts ∧ ts { nx := fun _ S' => P0 (.d .non) S', rt := P0 } (startG N.length ds) S) :
    HasM P wd K mg base (j + 1) C m ps g := by
  obtain ⟨f, fd, h1, h2, h3⟩ := r.ex
  exact ⟨r.cl, f, fd, h1, h2, fun_ok h3 Sc len fun cdv A outer s H E B P0 EP ds S => body f cdv A outer s H E B P0 EP ds S⟩
theorem hasi_ok (r : RawI K mg x C q st ps) (Sc : FnScope N ps (defScope st)) (len : ∀ ds S P EP, g ds S P EP → ds.length = ps.length)
    (body : ∀ (f : Addr) (cdv : Value) (A : Around) (outer : List Env) (s : Shared) (H : Hp) (E : XK) (B : Bs) (P0 : W → Sto → Prop) (EP : Value → Sto → Prop) (ds : List D) (S : Sto), Room j (A.deeper (envOfC q (defScope st) s.heap.objs.size f cdv)) →
      DX (cxOf (L2.CX P wd) P wd K mg base N q (defScope st) f cdv A outer s H E) B (fun cls d _ H => E cls d H) (fun c _ S => EP c S) → g ds S P0 EP →
      ∃ ts, PSsD (cxOf (L2.CX P wd) P wd K mg base N q (defScope st) f cdv A outer s H E) B (defBody st) ts ∧ ts { nx := fun _ S' => P0 (.d .non) S', rt := P0 } (startG N.length ds) S) :
    HasI P wd K mg base (j + 1) x C ps g := by
  obtain ⟨f, fd, h1, h2, h3⟩ := r.ex
  exact ⟨r.gm, f, fd, h1, h2, fun_ok h3 Sc len fun cdv A outer s H E B P0 EP ds S => body f cdv A outer s H E B P0 EP ds S⟩
theorem rawm_mk {f : Addr} {oc : Value} {od an : Option Addr} {osl : Array (Option Value)} {kV doc pm cdv ct : Value} (c0 : Cls K C)
    (a : PySem.W.findIn K (.ref C) m = some (some (.ref f))) (i : PySem.W.isFn K (.ref f) = true) (l : K.lookup f = some ⟨oc, od, .func (PySem.W.fnOf m q (defArgs st) (defBody st) (defScope st) .none kV doc pm an cdv ct), osl⟩) (c : PySem.W.codeIn K cdv q = true) (k : PySem.W.keepIn K (.ref f) = true)
    (hb : ∀ (kV doc pm : Value) (an : Option Addr) (cdv ct : Value) (us : List Value), us.length = ps.length → bindArgs (PySem.W.fnOf m q (defArgs st) (defBody st) (defScope st) .none kV doc pm an cdv ct) ⟨us, []⟩ = pure (ps.zip us)) : RawM K C m q st ps :=
  ⟨c0, f, _, ⟨a, i, k⟩, (fun_mk l c k).binds hb, fun_mk l c k⟩
theorem rawi_mk {h : Heap} {f : Addr} {oc : Value} {od an : Option Addr} {osl : Array (Option Value)} {kV doc pm cdv ct : Value} (X : K.In h) (G : h.Ns mainGlobals mg)
    (n : PySem.W.nsIn K mainGlobals x = some (some (.ref C))) (mk : PySem.W.makesIn K C = true) (kc : PySem.W.keepIn K (.ref C) = true)
    (a : PySem.W.findIn K (.ref C) "__init__" = some (some (.ref f))) (i : PySem.W.isFn K (.ref f) = true) (l : K.lookup f = some ⟨oc, od, .func (PySem.W.fnOf "__init__" q (defArgs st) (defBody st) (defScope st) .none kV doc pm an cdv ct), osl⟩) (c : PySem.W.codeIn K cdv q = true) (k : PySem.W.keepIn K (.ref f) = true)
    (hb : ∀ (kV doc pm : Value) (an : Option Addr) (cdv ct : Value) (us : List Value), us.length = ps.length → bindArgs (PySem.W.fnOf "__init__" q (defArgs st) (defBody st) (defScope st) .none kV doc pm an cdv ct) ⟨us, []⟩ = pure (ps.zip us)) : RawI K mg x C q st ps :=
  ⟨PySem.W.mg_of X G n, f, _, ⟨mk, a, i, kc⟩, (fun_mk l c k).binds hb, fun_mk l c k⟩
end
end DL
namespace DL
open PySem PySem.Spec PyProof.Rows L2
/-! ### list * int -/
section
variable {X : Cx} {B : Bs}
def rRepL (K : PySem.W.Frag) : R2 := fun x y H Q => ∃ l k xs, x = .ref l ∧ y = .int k ∧ SqL K H l xs ∧ 0 ≤ k ∧ k ≤ 1000 ∧ xs.length ≤ 1000 ∧ ∀ p, H p = none → Q (.ref p) (upd H p (.lst (List.replicate k.toNat xs).flatten))
theorem Vals.repL {vs : List V} {us : List Value} (h : Vals vs us) : ∀ n, Vals (List.replicate n vs).flatten (List.replicate n us).flatten
  | 0 => .nil
  | n + 1 => by
    rw [List.replicate_succ, List.replicate_succ, List.flatten_cons, List.flatten_cons]
    exact h.append (Vals.repL h n)
theorem op_repL : OpR X (binaryOp .Mult) (rRepL X.K) := by
  intro pins s σ H x y v u Q I rx ry h
  obtain ⟨l, k, xs, rfl, rfl, hH, h1, h2, hz, q⟩ := h
  cases rx
  obtain ⟨t, rfl⟩ := ry
  obtain ⟨its, r, g1, _⟩ := I.list hH
  obtain ⟨⟨cls, dd, data, sl⟩, n, ho, hc, hd0, hd⟩ := g1
  simp only at hc hd
  subst hc hd
  have hle : its.length = xs.length := r.length.symm
  have hm : its.toArray.size * k.toNat ≤ 1000000 := by
    rw [List.size_toArray, hle]
    have a1 : xs.length * k.toNat ≤ 1000 * 1000 := Nat.mul_le_mul hz (by omega)
    omega
  refine wpAny_binaryOp_repeat_ref (T := "list") (U := "int") (by decide) ⟨_, ho, rfl⟩ (fun s' => typeIs_int s' k t) noFill_list_mul F.fills_int_mul F.slot_int_rmul repeat_list F.slot_int_index.lookup
    (call_meets F.slot_int_rmul (typeIs_int s k t) F.entry_int_rmul (F.args_int_rmul_2 _ _) (lm_int_rmul_list_any k t l its.toArray n dd sl)
      ⟨ho, rfl, ⟨_, ho, rfl⟩, call_meets F.slot_list_mul ⟨_, ho, rfl⟩ F.entry_list_mul (F.args_list_mul_2 _ _)
        (lm_list_mul_any l its.toArray n dd sl k t (by simp [Builtin.List.listFitsIndex]; omega) (by omega) (by simp [Builtin.List.listTooLong, sizeLine]; simp at hm; omega))
        ⟨ho, ?_⟩⟩)
  rw [listMul_foldl_if]
  exact ⟨.ref _, _, I.lnew (t' := s.toks) (Vals.repL r k.toNat) (by
    rw [PyProof.Rows.lm_len_rep_flat, sizeLine_eq]
    have a1 : k.toNat * xs.length ≤ 1000 * 1000 := Nat.mul_le_mul (by omega) hz
    omega), rfl, q _ I.fresh⟩
def fRepL : D → D → (List D → Prop) → Prop := fun x y P => match x, y with
  | .lst a, .int n => (0 ≤ n ∧ n ≤ 1000 ∧ a.length ≤ 1000) ∧ P (List.replicate n.toNat a).flatten
  | _, _ => False
theorem o_repL : OpR X (binaryOp .Mult) (rRepL X.K) ∧ OpF X B (rRepL X.K) fRepL := ⟨op_repL, fun {Z S Γ σ H fp ofp x y vx vy Q P} r bx by_ h q => by
  cases x with
  | lst i =>
    cases y with
    | int j =>
      obtain ⟨a, xs, rfl, s1, d1⟩ := bx.list r
      cases by_.int
      refine ⟨a, j, xs, rfl, rfl, s1, h.1.1, h.1.2.1, by rw [d1.length]; exact h.1.2.2, fun l hl => ?_⟩
      obtain ⟨q1, q2, q3, q4⟩ := r.fresh hl
      exact q _ h.2 Z _ l _ (r.grow hl) (r.up0 hl) upd_same (d1.rep _) q3 q1 q2 hl
    | _ => exact False.elim h
  | _ => exact False.elim h⟩
end
end DL
namespace DL.K21
open PySem PySem.Spec PyProof.Rows L2
/-! ### the text -/
def topS (i : Nat) : Stmt := PySem.Challenge.pw_namehouse_k21_the_road.main.body.getD i (.Pass ⟨0, 0, 0, 0⟩)
abbrev st_p_is_among : Stmt := topS 11
abbrev N_p_is_among : List Str := [("thing" : Str), ("least" : Str), ("most" : Str)]
abbrev ps_p_is_among : List Str := [("thing" : Str), ("least" : Str), ("most" : Str)]
theorem sc_p_is_among : FnScope N_p_is_among ps_p_is_among (defScope st_p_is_among) := ⟨rfl, rfl, rfl, by decide +kernel, rfl, by decide +kernel, by decide +kernel⟩
abbrev st_p_need_turn : Stmt := topS 16
abbrev N_p_need_turn : List Str := [("turn" : Str)]
abbrev ps_p_need_turn : List Str := [("turn" : Str)]
theorem sc_p_need_turn : FnScope N_p_need_turn ps_p_need_turn (defScope st_p_need_turn) := ⟨rfl, rfl, rfl, by decide +kernel, rfl, by decide +kernel, by decide +kernel⟩
abbrev st_p_Road_init : Stmt := inClass (topS 17) 0
abbrev N_p_Road_init : List Str := [("self" : Str), ("row" : Str), ("way" : Str)]
abbrev ps_p_Road_init : List Str := [("self" : Str), ("row" : Str)]
theorem sc_p_Road_init : FnScope N_p_Road_init ps_p_Road_init (defScope st_p_Road_init) := ⟨rfl, rfl, rfl, by decide +kernel, rfl, by decide +kernel, by decide +kernel⟩
abbrev st_p_Road_next_way : Stmt := inClass (topS 17) 1
abbrev N_p_Road_next_way : List Str := [("self" : Str), ("way" : Str)]
abbrev ps_p_Road_next_way : List Str := [("self" : Str)]
theorem sc_p_Road_next_way : FnScope N_p_Road_next_way ps_p_Road_next_way (defScope st_p_Road_next_way) := ⟨rfl, rfl, rfl, by decide +kernel, rfl, by decide +kernel, by decide +kernel⟩
abbrev st_p_Road_send : Stmt := inClass (topS 17) 2
abbrev N_p_Road_send : List Str := [("self" : Str), ("letter" : Str), ("turn" : Str), ("way" : Str)]
abbrev ps_p_Road_send : List Str := [("self" : Str), ("letter" : Str), ("turn" : Str)]
theorem sc_p_Road_send : FnScope N_p_Road_send ps_p_Road_send (defScope st_p_Road_send) := ⟨rfl, rfl, rfl, by decide +kernel, rfl, by decide +kernel, by decide +kernel⟩
abbrev st_p_Road_due : Stmt := inClass (topS 17) 3
abbrev N_p_Road_due : List Str := [("self" : Str), ("turn" : Str), ("found" : Str), ("pair" : Str), ("when" : Str), ("letter" : Str)]
abbrev ps_p_Road_due : List Str := [("self" : Str), ("turn" : Str)]
theorem sc_p_Road_due : FnScope N_p_Road_due ps_p_Road_due (defScope st_p_Road_due) := ⟨rfl, rfl, rfl, by decide +kernel, rfl, by decide +kernel, by decide +kernel⟩
abbrev st_p_Road_many : Stmt := inClass (topS 17) 4
abbrev N_p_Road_many : List Str := [("self" : Str)]
abbrev ps_p_Road_many : List Str := [("self" : Str)]
theorem sc_p_Road_many : FnScope N_p_Road_many ps_p_Road_many (defScope st_p_Road_many) := ⟨rfl, rfl, rfl, by decide +kernel, rfl, by decide +kernel, by decide +kernel⟩
abbrev st_draw : Stmt := topS 19
abbrev N_draw : List Str := [("_law_script" : Str), ("_law_k" : Str)]
abbrev ps_draw : List Str := [("_law_script" : Str), ("_law_k" : Str)]
theorem sc_draw : FnScope N_draw ps_draw (defScope st_draw) := ⟨rfl, rfl, rfl, by decide +kernel, rfl, by decide +kernel, by decide +kernel⟩
abbrev st_spread : Stmt := topS 20
abbrev N_spread : List Str := [("_law_cell" : Str), ("_law_k" : Str)]
abbrev ps_spread : List Str := [("_law_cell" : Str), ("_law_k" : Str)]
theorem sc_spread : FnScope N_spread ps_spread (defScope st_spread) := ⟨rfl, rfl, rfl, by decide +kernel, rfl, by decide +kernel, by decide +kernel⟩
abbrev st_alone : Stmt := topS 22
abbrev N_alone : List Str := [("_law_caught" : Str), ("_law_words" : Str), ("_law_found" : Str)]
abbrev ps_alone : List Str := [("_law_caught" : Str), ("_law_words" : Str)]
theorem sc_alone : FnScope N_alone ps_alone (defScope st_alone) := ⟨rfl, rfl, rfl, by decide +kernel, rfl, by decide +kernel, by decide +kernel⟩
abbrev st_row : Stmt := topS 23
abbrev N_row : List Str := [("_law_script" : Str), ("_law_cell" : Str), ("_law_way" : Str), ("_law_row_here" : Str), ("_law_k" : Str), ("_law_draw_here" : Str)]
abbrev ps_row : List Str := [("_law_script" : Str)]
theorem sc_row : FnScope N_row ps_row (defScope st_row) := ⟨rfl, rfl, rfl, by decide +kernel, rfl, by decide +kernel, by decide +kernel⟩
abbrev st_sent : Stmt := topS 24
abbrev N_sent : List Str := [("_law_waiting" : Str), ("_law_row_here" : Str), ("_law_count" : Str), ("_law_thing" : Str), ("_law_turn" : Str), ("_law_way" : Str)]
abbrev ps_sent : List Str := [("_law_waiting" : Str), ("_law_row_here" : Str), ("_law_count" : Str), ("_law_thing" : Str), ("_law_turn" : Str)]
theorem sc_sent : FnScope N_sent ps_sent (defScope st_sent) := ⟨rfl, rfl, rfl, by decide +kernel, rfl, by decide +kernel, by decide +kernel⟩
abbrev st_refused : Stmt := topS 25
abbrev N_refused : List Str := [("_law_cell" : Str), ("_law_caught" : Str), ("e" : Str)]
abbrev ps_refused : List Str := [("_law_cell" : Str)]
theorem sc_refused : FnScope N_refused ps_refused (defScope st_refused) := ⟨rfl, rfl, rfl, by decide +kernel, rfl, by decide +kernel, by decide +kernel⟩
abbrev st_law : Stmt := topS 26
abbrev N_law : List Str := [("_law_script" : Str), ("_law_row_here" : Str), ("_law_handed" : Str), ("_law_road" : Str), ("_law_waiting" : Str), ("_law_count" : Str), ("_law_turn" : Str), ("_law_k" : Str), ("_law_step" : Str), ("_law_cell" : Str), ("_law_again" : Str), ("_law_thing" : Str), ("_law_found" : Str), ("_law_due" : Str), ("_law_pair" : Str), ("_law_when" : Str)]
abbrev ps_law : List Str := [("_law_script" : Str)]
theorem sc_law : FnScope N_law ps_law (defScope st_law) := ⟨rfl, rfl, rfl, by decide +kernel, rfl, by decide +kernel, by decide +kernel⟩
/-- what the top has written -/
structure Txt (K : PySem.W.Frag) (mg : Str → Option Value) (c_BadTurn c_Road c_BadName c_BadRecord c_BadZone c_BadChange c_BadLine c_BadRow c_BadLetter c_HouseError : Addr) : Prop where
  m_isinstance : mg "isinstance" = none
  m_int : mg "int" = none
  m_bool : mg "bool" = none
  m_BadTurn : mg "BadTurn" = some (.ref c_BadTurn)
  x_BadTurn : ExcD K mg "BadTurn" c_BadTurn
  m_list : mg "list" = none
  m_len : mg "len" = none
  m_MOST_ROW : ∃ t, mg "MOST_ROW" = some (.int 200 t)
  m_all : mg "all" = none
  m_MOST_WAY : ∃ t, mg "MOST_WAY" = some (.int 19 t)
  m_Road : mg "Road" = some (.ref c_Road)
  cl_Road : Cls K c_Road
  na_Road_ways : NoAttr K c_Road "ways"
  na_Road_place : NoAttr K c_Road "place"
  na_Road_waiting : NoAttr K c_Road "waiting"
  m_LOST : ∃ t, mg "LOST" = some (.int 10 t)
  m_ValueError : mg "ValueError" = none
  m_BadName : mg "BadName" = some (.ref c_BadName)
  m_BadRecord : mg "BadRecord" = some (.ref c_BadRecord)
  m_BadZone : mg "BadZone" = some (.ref c_BadZone)
  m_BadChange : mg "BadChange" = some (.ref c_BadChange)
  m_BadLine : mg "BadLine" = some (.ref c_BadLine)
  m_BadRow : mg "BadRow" = some (.ref c_BadRow)
  m_BadLetter : mg "BadLetter" = some (.ref c_BadLetter)
  m_range : mg "range" = none
  m_HouseError : mg "HouseError" = some (.ref c_HouseError)
  m_max : mg "max" = none
/-! ### what the road does -/
def amongD (x : D) (a b : Int) : Bool := match x with
  | .int i => decide (a ≤ i) && decide (i ≤ b)
  | _ => false
def F3 : List Str := [("ways" : Str), ("place" : Str), ("waiting" : Str)]
/-- a road stands in cell n -/
def RoadAt (c : Addr) (n : Nat) (ways : List D) (p : Int) (ws : List D) (S : Sto) : Prop :=
  ∃ a b, a ≠ b ∧ cellAt S n = some (.ins c F3 [.d (.ref a), .d (.int p), .d (.ref b)]) ∧ cellAt S a = some (.lst ways) ∧ cellAt S b = some (.lst ws)
def WayOk (d : D) : Prop := ∃ i : Int, d = .int i ∧ 0 ≤ i ∧ i ≤ 19
def RoadOk (ways : List D) (p : Int) : Prop := (∀ d ∈ ways, WayOk d) ∧ ways.length ≤ 200 ∧ (ways ≠ [] → 0 ≤ p ∧ p < ways.length)
def wayI (ways : List D) (p : Int) : Int := match atI ways p with
  | some (.int i) => i
  | _ => 0
def nextP (ways : List D) (p : Int) : Int := if ways.isEmpty then p else (p + 1) % (ways.length : Int)
def sentW (ws : List D) (w : Int) (x : D) (t : Int) : List D :=
  if w = 10 then ws else if w < 10 then ws ++ [.tup [.int (t + 1 + w), x]] else ws ++ [.tup [.int (t + 1), x], .tup [.int (t + 1 + w - 10), x]]
def whenD : D → Int
  | .tup [.int i, _] => i
  | _ => 0
def letD : D → D
  | .tup [_, x] => x
  | _ => .non
def PairOk (d : D) : Prop := ∃ (i : Int) (x : D), d = .tup [.int i, x] ∧ ckN 2 x
def dueD (t : Int) (ws : List D) : List D := (ws.filter fun d => eqD (.int (whenD d)) (.int t)).map letD
def restD (t : Int) (ws : List D) : List D := ws.filter fun d => !eqD (.int (whenD d)) (.int t)
/-! ### promises -/
def g_p_is_among : DSpec := fun ds S P _ => match ds with
  | [x, .int a, .int b] => okD x = true ∧ P (.d (.bl (amongD x a b))) S
  | _ => False
def g_p_need_turn : DSpec := fun ds S P _ => match ds with
  | [.int t] => 0 ≤ t ∧ P (.d .non) S
  | _ => False
/-- a list that a road may be made of -/
def rowOk : D → Bool
  | .lst ws => decide (ws.length ≤ 200) && ws.all fun d => amongD d 0 19
  | _ => false
def g_p_Road_init (c cB : Addr) : DSpec := fun ds S P EP => match ds with
  | [.ref n, row] => ∃ S0, S = S0 ++ [.ins c [] []] ∧ n = S0.length ∧ okD (der S row) = true ∧ (∀ ws, der S row = .lst ws → sz ws.length) ∧
      (∀ ws, der S row = .lst ws → rowOk (der S row) = true → P (.d .non) (S0 ++ [.ins c F3 [.d (.ref (n + 1)), .d (.int 0), .d (.ref (n + 2))], .lst ws, .lst []])) ∧ (rowOk (der S row) = false → EP (.ref cB) S)
  | _ => False
def g_p_Road_next_way (c : Addr) : DSpec := fun ds S P _ => match ds with
  | [.ref n] => ∃ ways p ws, RoadAt c n ways p ws S ∧ RoadOk ways p ∧ ∀ S', RoadAt c n ways (nextP ways p) ws S' → P (.d (.int (wayI ways p))) S'
  | _ => False
def g_p_Road_send (c : Addr) : DSpec := fun ds S P _ => match ds with
  | [.ref n, x, .int t] => ∃ ways p ws, RoadAt c n ways p ws S ∧ RoadOk ways p ∧ 0 ≤ t ∧ ws.length ≤ 1000 ∧ ∀ S', RoadAt c n ways (nextP ways p) (sentW ws (wayI ways p) x t) S' → P (.d .non) S'
  | _ => False
def g_p_Road_due (c : Addr) : DSpec := fun ds S P _ => match ds with
  | [.ref n, .int t] => ∃ ways p ws, RoadAt c n ways p ws S ∧ (∀ d ∈ ws, PairOk d) ∧ 0 ≤ t ∧ ws.length ≤ 1000 ∧ ∀ S', RoadAt c n ways p (restD t ws) S' → P (.own (dueD t ws)) S'
  | _ => False
def g_p_Road_many (c : Addr) : DSpec := fun ds S P _ => match ds with
  | [.ref n] => ∃ ways p ws, RoadAt c n ways p ws S ∧ P (.d (.int ws.length)) S
  | _ => False
def g_draw : DSpec := fun ds S P _ => match ds with
  | [.lst cs, .int k] => ((∀ c ∈ cs, ∃ i, c = .int i) ∧ 0 ≤ k) ∧ ∀ i : Int, P (.d (.int i)) S
  | _ => False
def g_spread : DSpec := fun ds S P _ => match ds with
  | [.int c, .int k] => (0 ≤ k ∧ k ≤ 1000) ∧ ∀ r : Int, 0 ≤ r → r < 2147483647 → P (.d (.int r)) S
  | _ => False
def g_alone (cB : Addr) : DSpec := fun ds S P _ => match ds with
  | [x, .str s] => x = .exc (.ref cB) ∧ s = ("turn " : Str) ∧ P (.d (.bl true)) S
  | _ => False
def g_row : DSpec := fun ds S P _ => match ds with
  | [.lst cs] => (∀ c ∈ cs, ∃ i, c = .int i) ∧ ∀ ways : List D, (∀ d ∈ ways, WayOk d) → ways.length ≤ 20 → P (.own ways) S
  | _ => False
def g_sent : DSpec := fun ds S P _ => match ds with
  | [.lst ws, .lst ways, .int n, x, .int t] => (0 ≤ n ∧ (∀ d ∈ ways, WayOk d) ∧ ways.length ≤ 200 ∧ ws.length ≤ 1000) ∧ P (.d (.lst (sentW ws (wayI ways (n % (ways.length : Int))) x t))) S
  | _ => False
def g_refused (c : Addr) : DSpec := fun ds S P _ => match ds with
  | [.int _] => P (.d (.bl true)) (S ++ [.ins c [] []])
  | _ => False
abbrev g_law : DSpec := fun ds S P _ => match ds with
  | [.lst cs] => ((∀ c ∈ cs, ∃ i, c = .int i) ∧ cs.length ≤ 63 ∧ S = []) ∧ ∀ S', P (.d (.bl true)) S'
  | _ => False
/-! ### the readings -/
def t_p_is_among (K : PySem.W.Frag) (c_BadTurn c_Road c_BadName c_BadRecord c_BadZone c_BadChange c_BadLine c_BadRow c_BadLetter c_HouseError : Addr) (ew : EW) : DS :=
  dRet (dAnd (dCall (fIsi K) (dCons (dVar 0) (dCons (dC (.val (.ty "int"))) (dNil)))) (dAnd (dNot (dCall (fIsi K) (dCons (dVar 0) (dCons (dC (.val (.ty "bool"))) (dNil))))) (dChain fLe fLe (dVar 1) (dVar 0) (dVar 2))))
def t_p_need_turn (K : PySem.W.Frag) (c_BadTurn c_Road c_BadName c_BadRecord c_BadZone c_BadChange c_BadLine c_BadRow c_BadLetter c_HouseError : Addr) (ew : EW) : DS :=
  dIfS (dTOr (dTNot (dT (dCall (fIsi K) (dCons (dVar 0) (dCons (dC (.val (.ty "int"))) (dNil)))))) (dTOr (dT (dCall (fIsi K) (dCons (dVar 0) (dCons (dC (.val (.ty "bool"))) (dNil))))) (dT (dOp fLtS (dVar 0) (dC (.int 0))))))
  (dRaise ew (.ref c_BadTurn))
  (dNext)
def t_p_Road_init (K : PySem.W.Frag) (c_BadTurn c_Road c_BadName c_BadRecord c_BadZone c_BadChange c_BadLine c_BadRow c_BadLetter c_HouseError : Addr) (ew : EW) : DS :=
  dSeq (dIfS (dTOr (dTNot (dT (dCall (fIsi K) (dCons (dVar 1) (dCons (dC (.val (.ty "list"))) (dNil)))))) (dT (dOp fGt (dCall fLen (dCons (dVar 1) (dNil))) (dC (.int 200)))))
  (dRaise ew (.ref c_BadTurn))
  (dNext))
  (dSeq (dIfS (dTNot (dT (dCall fAll (dCons (dFz (dCompC (dWlC (dVar 1)) (dgName 2) (dYes) (dCallS g_p_is_among ew0 (dCons (dVar 2) (dCons (dC (.int 0)) (dCons (dC (.int 19)) (dNil))))) [2])) (dNil)))))
  (dRaise ew (.ref c_BadTurn))
  (dNext))
  (dSeq (dFldSet c_Road ("ways" : Str) (dVar 0) (dBox (dCallF fList (dCons (dVar 1) (dNil)))))
  (dSeq (dFldSet c_Road ("place" : Str) (dVar 0) (dC (.int 0)))
  (dFldSet c_Road ("waiting" : Str) (dVar 0) (dBox (dLst (dNil)))))))
def t_p_Road_next_way (K : PySem.W.Frag) (c_BadTurn c_Road c_BadName c_BadRecord c_BadZone c_BadChange c_BadLine c_BadRow c_BadLetter c_HouseError : Addr) (ew : EW) : DS :=
  dSeq (dIfS (dT (dOp fEq (dFld c_Road ("ways" : Str) (dVar 0)) (dFz (dLst (dNil)))))
  (dRet (dC (.int 0)))
  (dNext))
  (dSeq (dSet 1 (dOp fIx (dFld c_Road ("ways" : Str) (dVar 0)) (dFld c_Road ("place" : Str) (dVar 0))))
  (dSeq (dFldSet c_Road ("place" : Str) (dVar 0) (dOp fMod (dOp fAdd (dFld c_Road ("place" : Str) (dVar 0)) (dC (.int 1))) (dCall fLen (dCons (dFld c_Road ("ways" : Str) (dVar 0)) (dNil)))))
  (dRet (dVar 1))))
def t_p_Road_send (K : PySem.W.Frag) (c_BadTurn c_Road c_BadName c_BadRecord c_BadZone c_BadChange c_BadLine c_BadRow c_BadLetter c_HouseError : Addr) (ew : EW) : DS :=
  dSeq (dDrop (dCallS g_p_need_turn ew (dCons (dVar 2) (dNil))))
  (dSeq (dSet 3 (dMethS c_Road ("next_way" : Str) (g_p_Road_next_way c_Road) ew (dVar 0) dNil))
  (dIfS (dT (dOp fLtS (dVar 3) (dC (.int 10))))
  (dAppC (dFld c_Road ("waiting" : Str) (dVar 0)) (dTup (dCons (dOp fAdd (dOp fAdd (dVar 2) (dC (.int 1))) (dVar 3)) (dCons (dVar 1) (dNil)))))
  (dIfS (dT (dOp fGt (dVar 3) (dC (.int 10))))
  (dSeq (dAppC (dFld c_Road ("waiting" : Str) (dVar 0)) (dTup (dCons (dOp fAdd (dVar 2) (dC (.int 1))) (dCons (dVar 1) (dNil)))))
  (dAppC (dFld c_Road ("waiting" : Str) (dVar 0)) (dTup (dCons (dOp fSub (dOp fAdd (dOp fAdd (dVar 2) (dC (.int 1))) (dVar 3)) (dC (.int 10))) (dCons (dVar 1) (dNil))))))
  (dNext))))
def t_p_Road_due (K : PySem.W.Frag) (c_BadTurn c_Road c_BadName c_BadRecord c_BadZone c_BadChange c_BadLine c_BadRow c_BadLetter c_HouseError : Addr) (ew : EW) : DS :=
  dSeq (dDrop (dCallS g_p_need_turn ew (dCons (dVar 1) (dNil))))
  (dSeq (dSetF 2 (dCompC (dWlC (dFld c_Road ("waiting" : Str) (dVar 0))) (dgTup 2 (dgCons (dgName 4) (dgCons (dgName 5) (dgNil)))) (dT (dOp fEq (dVar 4) (dVar 1))) (dVar 5) [4, 5]))
  (dSeq (dFldSet c_Road ("waiting" : Str) (dVar 0) (dBox (dCompC (dWlC (dFld c_Road ("waiting" : Str) (dVar 0))) (dgName 3) (dT (dOp fNe (dOp fIx (dVar 3) (dC (.int 0))) (dVar 1))) (dVar 3) [3])))
  (dRetO 2)))
def t_p_Road_many (K : PySem.W.Frag) (c_BadTurn c_Road c_BadName c_BadRecord c_BadZone c_BadChange c_BadLine c_BadRow c_BadLetter c_HouseError : Addr) (ew : EW) : DS :=
  dRet (dCall fLen (dCons (dFld c_Road ("waiting" : Str) (dVar 0)) (dNil)))
def t_draw (K : PySem.W.Frag) (c_BadTurn c_Road c_BadName c_BadRecord c_BadZone c_BadChange c_BadLine c_BadRow c_BadLetter c_HouseError : Addr) (ew : EW) : DS :=
  dRet (dIf (dT (dOp fGt (dCall fLen (dCons (dVar 0) (dNil))) (dVar 1))) (dOp fIx (dVar 0) (dVar 1)) (dC (.int 0)))
def t_spread (K : PySem.W.Frag) (c_BadTurn c_Road c_BadName c_BadRecord c_BadZone c_BadChange c_BadLine c_BadRow c_BadLetter c_HouseError : Addr) (ew : EW) : DS :=
  dRet (dOp fMod (dOp fMul (dOp fAdd (dVar 0) (dC (.int 3))) (dOp fAdd (dOp fAdd (dC (.int 48271)) (dOp fMul (dOp fMul (dC (.int 2)) (dVar 1)) (dVar 1))) (dVar 1))) (dC (.int 2147483647)))
def t_alone (K : PySem.W.Frag) (c_BadTurn c_Road c_BadName c_BadRecord c_BadZone c_BadChange c_BadLine c_BadRow c_BadLetter c_HouseError : Addr) (ew : EW) : DS :=
  dSeq (dIfS (dTOr (dT (dOp fIsN (dVar 0) (dC .non))) (dTNot (dT (dCall (fIsi K) (dCons (dVar 0) (dCons (dC (.val (.ty "ValueError"))) (dNil)))))))
  (dRet (dAnd (dOp fEq (dVar 1) (dC (.str ("none" : Str)))) (dOp fIsN (dVar 0) (dC .non))))
  (dNext))
  (dSeq (dSet 2 (dOp fAdd (dOp fMul (dC (.str ("name " : Str))) (dCall fInt (dCons (dCall (fIsi K) (dCons (dVar 0) (dCons (dC (.val (.ref c_BadName))) (dNil)))) (dNil)))) (dOp fMul (dC (.str ("record " : Str))) (dCall fInt (dCons (dCall (fIsi K) (dCons (dVar 0) (dCons (dC (.val (.ref c_BadRecord))) (dNil)))) (dNil))))))
  (dSeq (dSet 2 (dOp fAdd (dOp fAdd (dVar 2) (dOp fMul (dC (.str ("turn " : Str))) (dCall fInt (dCons (dCall (fIsi K) (dCons (dVar 0) (dCons (dC (.val (.ref c_BadTurn))) (dNil)))) (dNil))))) (dOp fMul (dC (.str ("zone " : Str))) (dCall fInt (dCons (dCall (fIsi K) (dCons (dVar 0) (dCons (dC (.val (.ref c_BadZone))) (dNil)))) (dNil))))))
  (dSeq (dSet 2 (dOp fAdd (dVar 2) (dOp fMul (dC (.str ("change " : Str))) (dCall fInt (dCons (dCall (fIsi K) (dCons (dVar 0) (dCons (dC (.val (.ref c_BadChange))) (dNil)))) (dNil))))))
  (dRet (dOp fEq (dOp fAdd (dVar 2) (dOp fMul (dC (.str ("other " : Str))) (dCall fInt (dCons (dCall (fIsi K) (dCons (dVar 0) (dCons (dTup (dCons (dC (.val (.ref c_BadLetter))) (dCons (dC (.val (.ref c_BadRow))) (dCons (dC (.val (.ref c_BadLine))) (dNil))))) (dNil)))) (dNil))))) (dVar 1))))))
def t_row (K : PySem.W.Frag) (c_BadTurn c_Road c_BadName c_BadRecord c_BadZone c_BadChange c_BadLine c_BadRow c_BadLetter c_HouseError : Addr) (ew : EW) : DS :=
  dSeq (dSet 1 (dCallS g_spread ew (dCons (dCallS g_draw ew (dCons (dVar 0) (dCons (dC (.int 0)) (dNil)))) (dCons (dC (.int 2)) (dNil)))))
  (dSeq (dSet 2 (dOp fMod (dVar 1) (dC (.int 5))))
  (dSeq (dSetF 3 (dLst (dNil)))
  (dSeq (dFor (dRng1 (dCons (dOp fMod (dOp fDiv (dVar 1) (dC (.int 5))) (dC (.int 21))) (dNil))) (dgName 4)
  (dSeq (dSet 5 (dCallS g_spread ew (dCons (dCallS g_draw ew (dCons (dVar 0) (dCons (dOp fAdd (dC (.int 1)) (dOp fMod (dVar 4) (dC (.int 2)))) (dNil)))) (dCons (dVar 4) (dNil)))))
  (dApp 3 (dOp fIx (dFz (dLst (dCons (dOp fMod (dVar 5) (dC (.int 20))) (dCons (dOp fMod (dVar 5) (dC (.int 10))) (dCons (dOp fIx (dFz (dLst (dCons (dC (.int 0)) (dCons (dC (.int 10)) (dNil))))) (dOp fMod (dVar 5) (dC (.int 2)))) (dCons (dOp fAdd (dC (.int 10)) (dOp fMod (dVar 5) (dC (.int 10)))) (dCons (dOp fIx (dFz (dLst (dCons (dC (.int 0)) (dCons (dC (.int 0)) (dCons (dC (.int 0)) (dCons (dC (.int 3)) (dCons (dC (.int 11)) (dCons (dC (.int 19)) (dNil))))))))) (dOp fMod (dVar 5) (dC (.int 6)))) (dNil)))))))) (dVar 2)))))
  (dRetO 3))))
def t_sent (K : PySem.W.Frag) (c_BadTurn c_Road c_BadName c_BadRecord c_BadZone c_BadChange c_BadLine c_BadRow c_BadLetter c_HouseError : Addr) (ew : EW) : DS :=
  dSeq (dSet 5 (dIf (dT (dOp fNe (dVar 1) (dFz (dLst (dNil))))) (dOp fIx (dVar 1) (dOp fMod (dVar 2) (dCall fLen (dCons (dVar 1) (dNil))))) (dC (.int 0))))
  (dSeq (dIfS (dT (dOp fEq (dVar 5) (dC (.int 10))))
  (dRet (dVar 0))
  (dNext))
  (dSeq (dIfS (dT (dOp fLtS (dVar 5) (dC (.int 10))))
  (dRet (dFz (dOpF fCat (dVar 0) (dFz (dLst (dCons (dTup (dCons (dOp fAdd (dOp fAdd (dVar 4) (dC (.int 1))) (dVar 5)) (dCons (dVar 3) (dNil)))) (dNil)))))))
  (dNext))
  (dRet (dFz (dOpF fCat (dVar 0) (dFz (dLst (dCons (dTup (dCons (dOp fAdd (dVar 4) (dC (.int 1))) (dCons (dVar 3) (dNil)))) (dCons (dTup (dCons (dOp fSub (dOp fAdd (dOp fAdd (dVar 4) (dC (.int 1))) (dVar 5)) (dC (.int 10))) (dCons (dVar 3) (dNil)))) (dNil))))))))))
def t_refused (K : PySem.W.Frag) (c_BadTurn c_Road c_BadName c_BadRecord c_BadZone c_BadChange c_BadLine c_BadRow c_BadLetter c_HouseError : Addr) (ew : EW) : DS :=
  dSeq (dSet 1 (dC .non))
  (dSeq (dTry K (.ref c_HouseError) 2 (fun ewT => dDrop (dMakeS c_Road (g_p_Road_init c_Road c_BadTurn) ewT (dCons (dOp fIx (dFz (dLst (dCons (dC .non) (dCons (dTup (dCons (dC (.int 0)) (dCons (dC (.int 1)) (dNil)))) (dCons (dC (.str ("01" : Str))) (dCons (dFz (dLst (dCons (dC (.int 20)) (dNil)))) (dCons (dFz (dLst (dCons (dNeg (dC (.int 1))) (dNil)))) (dCons (dFz (dLst (dCons (dC (.bl true)) (dNil)))) (dCons (dFz (dOpF fRepL (dFz (dLst (dCons (dC (.int 0)) (dNil)))) (dC (.int 201)))) (dCons (dFz (dLst (dCons (dC (.str ("0" : Str))) (dNil)))) (dCons (dC (.int 5)) (dNil)))))))))))) (dOp fMod (dVar 0) (dC (.int 9)))) (dNil))))
  (dSet 1 (dVar 2)) ew)
  (dRet (dCallS (g_alone c_BadTurn) ew (dCons (dVar 1) (dCons (dC (.str ("turn " : Str))) (dNil))))))
def t_law_117 (K : PySem.W.Frag) (c_BadTurn c_Road c_BadName c_BadRecord c_BadZone c_BadChange c_BadLine c_BadRow c_BadLetter c_HouseError : Addr) (ew : EW) : DS :=
  dSeq (dSet 11 (dOp fIx (dFz (dLst (dCons (dTup (dCons (dC (.str ("letter" : Str))) (dCons (dVar 5) (dNil)))) (dCons (dC (.str ("same" : Str))) (dCons (dC .non) (dCons (dTup (dCons (dOp fDiv (dVar 5) (dC (.int 2))) (dCons (dC (.str ("x" : Str))) (dNil)))) (dNil))))))) (dOp fMod (dOp fDiv (dVar 9) (dOp fAdd (dC (.int 5)) (dVar 8))) (dC (.int 4)))))
  (dSeq (dIfS (dT (dOp fNotN (dMethS c_Road ("send" : Str) (g_p_Road_send c_Road) ew (dVar 3) (dCons (dVar 11) (dCons (dVar 6) (dNil)))) (dC .non)))
  (dRet (dC (.bl false)))
  (dNext))
  (dSeq (dSet 4 (dCallS g_sent ew (dCons (dVar 4) (dCons (dVar 1) (dCons (dVar 5) (dCons (dVar 11) (dCons (dVar 6) (dNil))))))))
  (dSet 5 (dOp fAdd (dVar 5) (dC (.int 1))))))
def t_law_126 (K : PySem.W.Frag) (c_BadTurn c_Road c_BadName c_BadRecord c_BadZone c_BadChange c_BadLine c_BadRow c_BadLetter c_HouseError : Addr) (ew : EW) : DS :=
  dSeq (dSetF 12 (dMethSF c_Road ("due" : Str) (g_p_Road_due c_Road) ew (dVar 3) (dCons (dVar 6) (dNil))))
  (dSeq (dSetZ 13 (dComp (dWl (dVar 4)) (dgTup 2 (dgCons (dgName 15) (dgCons (dgName 11) (dgNil)))) (dT (dOp fEq (dVar 15) (dVar 6))) (dVar 11) [15, 11]))
  (dSeq (dSetZ 4 (dComp (dWl (dVar 4)) (dgName 14) (dT (dOp fNe (dOp fIx (dVar 14) (dC (.int 0))) (dVar 6))) (dVar 14) [14]))
  (dSeq (dIfS (dTOr (dTNot (dT (dCall (fIsi K) (dCons (dVarB 12) (dCons (dC (.val (.ty "list"))) (dNil)))))) (dTOr (dT (dOp fNe (dVarB 12) (dVar 13))) (dT (dOp fNe (dMethS c_Road ("many" : Str) (g_p_Road_many c_Road) ew (dVar 3) dNil) (dCall fLen (dCons (dVar 4) (dNil)))))))
  (dRet (dC (.bl false)))
  (dNext))
  (dApp 12 (dC (.str ("more" : Str)))))))
def t_law_122 (K : PySem.W.Frag) (c_BadTurn c_Road c_BadName c_BadRecord c_BadZone c_BadChange c_BadLine c_BadRow c_BadLetter c_HouseError : Addr) (ew : EW) : DS :=
  dSeq (dIfS (dTOr (dTNot (dT (dCallS (g_refused c_Road) ew (dCons (dOp fDiv (dVar 9) (dC (.int 21))) (dNil))))) (dT (dOp fNe (dMethS c_Road ("many" : Str) (g_p_Road_many c_Road) ew (dVar 3) dNil) (dCall fLen (dCons (dVar 4) (dNil))))))
  (dRet (dC (.bl false)))
  (dNext))
  (dSeq (dSet 6 (dOp fAdd (dOp fAdd (dVar 6) (dC (.int 1))) (dOp fDiv (dOp fMod (dOp fDiv (dVar 9) (dC (.int 200))) (dC (.int 7))) (dC (.int 6)))))
  (dFor (dRng1 (dCons (dOp fAdd (dC (.int 1)) (dOp fMod (dOp fDiv (dVar 9) (dC (.int 100))) (dC (.int 2)))) (dNil))) (dgName 10)
  (t_law_126 K c_BadTurn c_Road c_BadName c_BadRecord c_BadZone c_BadChange c_BadLine c_BadRow c_BadLetter c_HouseError ew)))
def t_law_115 (K : PySem.W.Frag) (c_BadTurn c_Road c_BadName c_BadRecord c_BadZone c_BadChange c_BadLine c_BadRow c_BadLetter c_HouseError : Addr) (ew : EW) : DS :=
  dSeq (dSet 9 (dCallS g_spread ew (dCons (dOp fIx (dVar 0) (dOp fAdd (dC (.int 3)) (dVar 7))) (dCons (dVar 7) (dNil)))))
  (dSeq (dFor (dRng1 (dCons (dIf (dT (dOp fLtS (dVar 5) (dC (.int 60)))) (dOp fIx (dFz (dLst (dCons (dC (.int 0)) (dCons (dC (.int 1)) (dCons (dC (.int 1)) (dCons (dC (.int 2)) (dCons (dC (.int 6)) (dNil)))))))) (dOp fMod (dVar 9) (dC (.int 5)))) (dC (.int 0))) (dNil))) (dgName 8)
  (t_law_117 K c_BadTurn c_Road c_BadName c_BadRecord c_BadZone c_BadChange c_BadLine c_BadRow c_BadLetter c_HouseError ew))
  (t_law_122 K c_BadTurn c_Road c_BadName c_BadRecord c_BadZone c_BadChange c_BadLine c_BadRow c_BadLetter c_HouseError ew))
def t_law_133 (K : PySem.W.Frag) (c_BadTurn c_Road c_BadName c_BadRecord c_BadZone c_BadChange c_BadLine c_BadRow c_BadLetter c_HouseError : Addr) (ew : EW) : DS :=
  dSeq (dSet 6 (dOp fAdd (dVar 6) (dC (.int 1))))
  (dSeq (dIfS (dT (dOp fNe (dMethS c_Road ("due" : Str) (g_p_Road_due c_Road) ew (dVar 3) (dCons (dVar 6) (dNil))) (dFz (dComp (dWl (dVar 4)) (dgTup 2 (dgCons (dgName 15) (dgCons (dgName 11) (dgNil)))) (dT (dOp fEq (dVar 15) (dVar 6))) (dVar 11) [15, 11]))))
  (dRet (dC (.bl false)))
  (dNext))
  (dSetZ 4 (dComp (dWl (dVar 4)) (dgName 14) (dT (dOp fNe (dOp fIx (dVar 14) (dC (.int 0))) (dVar 6))) (dVar 14) [14])))
def t_law_132 (K : PySem.W.Frag) (c_BadTurn c_Road c_BadName c_BadRecord c_BadZone c_BadChange c_BadLine c_BadRow c_BadLetter c_HouseError : Addr) (ew : EW) : DS :=
  dSeq (dFor (dRng1 (dCons (dC (.int 22)) (dNil))) (dgName 8)
  (t_law_133 K c_BadTurn c_Road c_BadName c_BadRecord c_BadZone c_BadChange c_BadLine c_BadRow c_BadLetter c_HouseError ew))
  (dRet (dAnd (dOp fEq (dMethS c_Road ("many" : Str) (g_p_Road_many c_Road) ew (dVar 3) dNil) (dCall fLen (dCons (dVar 4) (dNil)))) (dNot (dCall (fIsi K) (dCons (dMethS c_Road ("many" : Str) (g_p_Road_many c_Road) ew (dVar 3) dNil) (dCons (dC (.val (.ty "bool"))) (dNil)))))))
def t_law (K : PySem.W.Frag) (c_BadTurn c_Road c_BadName c_BadRecord c_BadZone c_BadChange c_BadLine c_BadRow c_BadLetter c_HouseError : Addr) (ew : EW) : DS :=
  dSeq (dSet 1 (dCallS g_row ew (dCons (dVar 0) (dNil))))
  (dSeq (dSet 2 (dBox (dCallF fList (dCons (dVar 1) (dNil)))))
  (dSeq (dSet 3 (dMakeS c_Road (g_p_Road_init c_Road c_BadTurn) ew (dCons (dVar 2) (dNil))))
  (dSeq (dAppC (dVar 2) (dC (.int 5)))
  (dSeq (dSet 4 (dFz (dLst (dNil))))
  (dSeq (dSet 5 (dC (.int 0)))
  (dSeq (dSet 6 (dOp fMod (dCallS g_draw ew (dCons (dVar 0) (dCons (dC (.int 2)) (dNil)))) (dOp fPow (dC (.int 10)) (dC (.int 9)))))
  (dSeq (dFor (dRng1 (dCons (dCall fMax2 (dCons (dC (.int 0)) (dCons (dOp fSub (dCall fLen (dCons (dVar 0) (dNil))) (dC (.int 3))) (dNil)))) (dNil))) (dgName 7)
  (t_law_115 K c_BadTurn c_Road c_BadName c_BadRecord c_BadZone c_BadChange c_BadLine c_BadRow c_BadLetter c_HouseError ew))
  (t_law_132 K c_BadTurn c_Road c_BadName c_BadRecord c_BadZone c_BadChange c_BadLine c_BadRow c_BadLetter c_HouseError ew))))))))
end DL.K21
namespace DL.K21
open PySem PySem.Spec PyProof.Rows L2
theorem w_p_is_among {P : Program} {wd : World} {K : PySem.W.Frag} {mg : Str → Option Value} {base : Heap} {c_BadTurn c_Road c_BadName c_BadRecord c_BadZone c_BadChange c_BadLine c_BadRow c_BadLetter c_HouseError : Addr} (T : Txt K mg c_BadTurn c_Road c_BadName c_BadRecord c_BadZone c_BadChange c_BadLine c_BadRow c_BadLetter c_HouseError)  
    {f : Addr} {cdv : Value} {A : Around} {outer : List Env} {s : Shared} {H : Hp} {E : XK} {B : Bs} {EP : Value → Sto → Prop} (hr : Room 0 (A.deeper (envOfC "is_among" (defScope st_p_is_among) s.heap.objs.size f cdv)))
    (dx : DX (cxOf (L2.CX P wd) P wd K mg base N_p_is_among "is_among" (defScope st_p_is_among) f cdv A outer s H E) B (fun cls d _ H => E cls d H) (fun c _ S => EP c S)) :
    PSsD (cxOf (L2.CX P wd) P wd K mg base N_p_is_among "is_among" (defScope st_p_is_among) f cdv A outer s H E) B (defBody st_p_is_among) (t_p_is_among K c_BadTurn c_Road c_BadName c_BadRecord c_BadZone c_BadChange c_BadLine c_BadRow c_BadLetter c_HouseError fun c _ S => EP c S) := by
  have hu : (cxOf (L2.CX P wd) P wd K mg base N_p_is_among "is_among" (defScope st_p_is_among) f cdv A outer s H E).A.units + 100 < cLine := by
    have := hr.un
    show (A.deeper _).units + 100 < cLine
    omega
  have hu1 : (cxOf (L2.CX P wd) P wd K mg base N_p_is_among "is_among" (defScope st_p_is_among) f cdv A outer s H E).A.units + 1 < cLine := by omega
  have nd := sc_p_is_among.nd
  have hp : PassesOwn (model P wd) (cxOf (L2.CX P wd) P wd K mg base N_p_is_among "is_among" (defScope st_p_is_among) f cdv A outer s H E).A (cxOf (L2.CX P wd) P wd K mg base N_p_is_among "is_among" (defScope st_p_is_among) f cdv A outer s H E).env (cxOf (L2.CX P wd) P wd K mg base N_p_is_among "is_among" (defScope st_p_is_among) f cdv A outer s H E).xe := passes_of rfl
  exact pss_done (ps_dret (pd_and (pd_callB o_isi (by rfl) T.m_isinstance bb_isinstance (pb_cons (pb_of (pd_var 0)) (pb_cons (pb_of (pd_ty (by rfl) T.m_int bb_int)) (pb_nil)))) (pd_and (pd_not (pd_callB o_isi (by rfl) T.m_isinstance bb_isinstance (pb_cons (pb_of (pd_var 0)) (pb_cons (pb_of (pd_ty (by rfl) T.m_bool bb_bool)) (pb_nil))))) (pd_one (pd_chain (o_le) (o_le) (pb_of (pd_var 1)) (pb_of (pd_var 0)) (pb_of (pd_var 2)))))))
theorem w_p_need_turn {P : Program} {wd : World} {K : PySem.W.Frag} {mg : Str → Option Value} {base : Heap} {c_BadTurn c_Road c_BadName c_BadRecord c_BadZone c_BadChange c_BadLine c_BadRow c_BadLetter c_HouseError : Addr} (T : Txt K mg c_BadTurn c_Road c_BadName c_BadRecord c_BadZone c_BadChange c_BadLine c_BadRow c_BadLetter c_HouseError)  
    {f : Addr} {cdv : Value} {A : Around} {outer : List Env} {s : Shared} {H : Hp} {E : XK} {B : Bs} {EP : Value → Sto → Prop} (hr : Room 0 (A.deeper (envOfC "need_turn" (defScope st_p_need_turn) s.heap.objs.size f cdv)))
    (dx : DX (cxOf (L2.CX P wd) P wd K mg base N_p_need_turn "need_turn" (defScope st_p_need_turn) f cdv A outer s H E) B (fun cls d _ H => E cls d H) (fun c _ S => EP c S)) :
    PSsD (cxOf (L2.CX P wd) P wd K mg base N_p_need_turn "need_turn" (defScope st_p_need_turn) f cdv A outer s H E) B (defBody st_p_need_turn) (t_p_need_turn K c_BadTurn c_Road c_BadName c_BadRecord c_BadZone c_BadChange c_BadLine c_BadRow c_BadLetter c_HouseError fun c _ S => EP c S) := by
  have hu : (cxOf (L2.CX P wd) P wd K mg base N_p_need_turn "need_turn" (defScope st_p_need_turn) f cdv A outer s H E).A.units + 100 < cLine := by
    have := hr.un
    show (A.deeper _).units + 100 < cLine
    omega
  have hu1 : (cxOf (L2.CX P wd) P wd K mg base N_p_need_turn "need_turn" (defScope st_p_need_turn) f cdv A outer s H E).A.units + 1 < cLine := by omega
  have nd := sc_p_need_turn.nd
  have hp : PassesOwn (model P wd) (cxOf (L2.CX P wd) P wd K mg base N_p_need_turn "need_turn" (defScope st_p_need_turn) f cdv A outer s H E).A (cxOf (L2.CX P wd) P wd K mg base N_p_need_turn "need_turn" (defScope st_p_need_turn) f cdv A outer s H E).env (cxOf (L2.CX P wd) P wd K mg base N_p_need_turn "need_turn" (defScope st_p_need_turn) f cdv A outer s H E).xe := passes_of rfl
  exact pss_done (ps_dif ((pw_dor (pt_dnot (pt_d (pd_callB o_isi (by rfl) T.m_isinstance bb_isinstance (pb_cons (pb_of (pd_var 0)) (pb_cons (pb_of (pd_ty (by rfl) T.m_int bb_int)) (pb_nil)))))) (pw_dor (pt_d (pd_callB o_isi (by rfl) T.m_isinstance bb_isinstance (pb_cons (pb_of (pd_var 0)) (pb_cons (pb_of (pd_ty (by rfl) T.m_bool bb_bool)) (pb_nil))))) (pw_dor1 (pt_dcmp (o_ltS) (pb_of (pd_var 0)) (pb_of (pd_int)))))).pt)
      (pss_done (ps_draiseD rfl dx T.x_BadTurn))
      (pss_dnil))
theorem w_p_Road_init {P : Program} {wd : World} {K : PySem.W.Frag} {mg : Str → Option Value} {base : Heap} {c_BadTurn c_Road c_BadName c_BadRecord c_BadZone c_BadChange c_BadLine c_BadRow c_BadLetter c_HouseError : Addr} (T : Txt K mg c_BadTurn c_Road c_BadName c_BadRecord c_BadZone c_BadChange c_BadLine c_BadRow c_BadLetter c_HouseError)  (h_p_is_among : Has P wd K mg base 1 "is_among" ps_p_is_among g_p_is_among)
    {f : Addr} {cdv : Value} {A : Around} {outer : List Env} {s : Shared} {H : Hp} {E : XK} {B : Bs} {EP : Value → Sto → Prop} (hr : Room 1 (A.deeper (envOfC "Road.__init__" (defScope st_p_Road_init) s.heap.objs.size f cdv)))
    (dx : DX (cxOf (L2.CX P wd) P wd K mg base N_p_Road_init "Road.__init__" (defScope st_p_Road_init) f cdv A outer s H E) B (fun cls d _ H => E cls d H) (fun c _ S => EP c S)) :
    PSsD (cxOf (L2.CX P wd) P wd K mg base N_p_Road_init "Road.__init__" (defScope st_p_Road_init) f cdv A outer s H E) B (defBody st_p_Road_init) (t_p_Road_init K c_BadTurn c_Road c_BadName c_BadRecord c_BadZone c_BadChange c_BadLine c_BadRow c_BadLetter c_HouseError fun c _ S => EP c S) := by
  have hu : (cxOf (L2.CX P wd) P wd K mg base N_p_Road_init "Road.__init__" (defScope st_p_Road_init) f cdv A outer s H E).A.units + 100 < cLine := by
    have := hr.un
    show (A.deeper _).units + 100 < cLine
    omega
  have hu1 : (cxOf (L2.CX P wd) P wd K mg base N_p_Road_init "Road.__init__" (defScope st_p_Road_init) f cdv A outer s H E).A.units + 1 < cLine := by omega
  have nd := sc_p_Road_init.nd
  have hp : PassesOwn (model P wd) (cxOf (L2.CX P wd) P wd K mg base N_p_Road_init "Road.__init__" (defScope st_p_Road_init) f cdv A outer s H E).A (cxOf (L2.CX P wd) P wd K mg base N_p_Road_init "Road.__init__" (defScope st_p_Road_init) f cdv A outer s H E).env (cxOf (L2.CX P wd) P wd K mg base N_p_Road_init "Road.__init__" (defScope st_p_Road_init) f cdv A outer s H E).xe := passes_of rfl
  exact pss_dcons (ps_dif ((pw_dor (pt_dnot (pt_d (pd_callB o_isi (by rfl) T.m_isinstance bb_isinstance (pb_cons (pb_of (pd_var 1)) (pb_cons (pb_of (pd_ty (by rfl) T.m_list bb_list)) (pb_nil)))))) (pw_dor1 (pt_dcmp (o_gt) (pb_of (pd_callB o_len (by rfl) T.m_len bb_len (pb_cons (pb_of (pd_var 1)) (pb_nil)))) (pb_of (pd_gintE T.m_MOST_ROW))))).pt)
      (pss_done (ps_draiseD rfl dx T.x_BadTurn))
      (pss_dnil))
      (pss_dcons (ps_dif (pt_dnot (pt_d (pd_callB (o_all rfl) (by rfl) T.m_all bb_all (pb_cons (pb_of (pd_fz (pf_lcC (own := [(("way" : Str), 2)]) rfl nd (pi_dlistC (pd_var 1)) (blkOk_by (N := N_p_Road_init) (sc := defScope st_p_Road_init) (by decide +kernel)) (fun _ _ _ _ _ => pg_name (i := 2) nd rfl (Or.inl rfl)) (gc_of (gc_name 2 (by decide))) (fun _ _ _ _ _ => pts_dnil) (fun _ _ _ _ _ => pd_fn dx0 h_p_is_among (hr.mono (by decide)) (pa_dcons (pd_var 2) (pa_dcons (pd_int) (pa_dcons (pd_gintE T.m_MOST_WAY) (pa_dnil)))))))) (pb_nil)))))
      (pss_done (ps_draiseD rfl dx T.x_BadTurn))
      (pss_dnil))
      (pss_dcons (ps_fldset T.cl_Road T.na_Road_ways (pd_var 0) (pd_box (pf_callTy o_list (by rfl) T.m_list bb_list (pb_cons (pb_of (pd_var 1)) (pb_nil)))))
      (pss_dcons (ps_fldset T.cl_Road T.na_Road_place (pd_var 0) (pd_int))
      (pss_done (ps_fldset T.cl_Road T.na_Road_waiting (pd_var 0) (pd_box (pf_lst (pa_dnil))))))))
theorem w_p_Road_next_way {P : Program} {wd : World} {K : PySem.W.Frag} {mg : Str → Option Value} {base : Heap} {c_BadTurn c_Road c_BadName c_BadRecord c_BadZone c_BadChange c_BadLine c_BadRow c_BadLetter c_HouseError : Addr} (T : Txt K mg c_BadTurn c_Road c_BadName c_BadRecord c_BadZone c_BadChange c_BadLine c_BadRow c_BadLetter c_HouseError)  
    {f : Addr} {cdv : Value} {A : Around} {outer : List Env} {s : Shared} {H : Hp} {E : XK} {B : Bs} {EP : Value → Sto → Prop} (hr : Room 0 (A.deeper (envOfC "Road.next_way" (defScope st_p_Road_next_way) s.heap.objs.size f cdv)))
    (dx : DX (cxOf (L2.CX P wd) P wd K mg base N_p_Road_next_way "Road.next_way" (defScope st_p_Road_next_way) f cdv A outer s H E) B (fun cls d _ H => E cls d H) (fun c _ S => EP c S)) :
    PSsD (cxOf (L2.CX P wd) P wd K mg base N_p_Road_next_way "Road.next_way" (defScope st_p_Road_next_way) f cdv A outer s H E) B (defBody st_p_Road_next_way) (t_p_Road_next_way K c_BadTurn c_Road c_BadName c_BadRecord c_BadZone c_BadChange c_BadLine c_BadRow c_BadLetter c_HouseError fun c _ S => EP c S) := by
  have hu : (cxOf (L2.CX P wd) P wd K mg base N_p_Road_next_way "Road.next_way" (defScope st_p_Road_next_way) f cdv A outer s H E).A.units + 100 < cLine := by
    have := hr.un
    show (A.deeper _).units + 100 < cLine
    omega
  have hu1 : (cxOf (L2.CX P wd) P wd K mg base N_p_Road_next_way "Road.next_way" (defScope st_p_Road_next_way) f cdv A outer s H E).A.units + 1 < cLine := by omega
  have nd := sc_p_Road_next_way.nd
  have hp : PassesOwn (model P wd) (cxOf (L2.CX P wd) P wd K mg base N_p_Road_next_way "Road.next_way" (defScope st_p_Road_next_way) f cdv A outer s H E).A (cxOf (L2.CX P wd) P wd K mg base N_p_Road_next_way "Road.next_way" (defScope st_p_Road_next_way) f cdv A outer s H E).env (cxOf (L2.CX P wd) P wd K mg base N_p_Road_next_way "Road.next_way" (defScope st_p_Road_next_way) f cdv A outer s H E).xe := passes_of rfl
  exact pss_dcons (ps_dif (pt_dcmp (o_eq hu) (pb_of (pd_fld T.cl_Road T.na_Road_ways (pd_var 0))) (pb_of (pd_fz (pf_lst (pa_dnil)))))
      (pss_done (ps_dret (pd_int)))
      (pss_dnil))
      (pss_dcons (ps_dset 1 nd (pd_ix (pb_of (pd_fld T.cl_Road T.na_Road_ways (pd_var 0))) (pb_of (pd_fld T.cl_Road T.na_Road_place (pd_var 0)))) rfl (Or.inl rfl))
      (pss_dcons (ps_fldset T.cl_Road T.na_Road_place (pd_var 0) (pd_op o_mod (pb_of (pd_op o_add (pb_of (pd_fld T.cl_Road T.na_Road_place (pd_var 0))) (pb_of (pd_int)))) (pb_of (pd_callB o_len (by rfl) T.m_len bb_len (pb_cons (pb_of (pd_fld T.cl_Road T.na_Road_ways (pd_var 0))) (pb_nil))))))
      (pss_done (ps_dret (pd_var 1)))))
theorem w_p_Road_send {P : Program} {wd : World} {K : PySem.W.Frag} {mg : Str → Option Value} {base : Heap} {c_BadTurn c_Road c_BadName c_BadRecord c_BadZone c_BadChange c_BadLine c_BadRow c_BadLetter c_HouseError : Addr} (T : Txt K mg c_BadTurn c_Road c_BadName c_BadRecord c_BadZone c_BadChange c_BadLine c_BadRow c_BadLetter c_HouseError)  (h_p_need_turn : Has P wd K mg base 1 "need_turn" ps_p_need_turn g_p_need_turn) (h_p_Road_next_way : HasM P wd K mg base 1 c_Road "next_way" ps_p_Road_next_way (g_p_Road_next_way c_Road))
    {f : Addr} {cdv : Value} {A : Around} {outer : List Env} {s : Shared} {H : Hp} {E : XK} {B : Bs} {EP : Value → Sto → Prop} (hr : Room 1 (A.deeper (envOfC "Road.send" (defScope st_p_Road_send) s.heap.objs.size f cdv)))
    (dx : DX (cxOf (L2.CX P wd) P wd K mg base N_p_Road_send "Road.send" (defScope st_p_Road_send) f cdv A outer s H E) B (fun cls d _ H => E cls d H) (fun c _ S => EP c S)) :
    PSsD (cxOf (L2.CX P wd) P wd K mg base N_p_Road_send "Road.send" (defScope st_p_Road_send) f cdv A outer s H E) B (defBody st_p_Road_send) (t_p_Road_send K c_BadTurn c_Road c_BadName c_BadRecord c_BadZone c_BadChange c_BadLine c_BadRow c_BadLetter c_HouseError fun c _ S => EP c S) := by
  have hu : (cxOf (L2.CX P wd) P wd K mg base N_p_Road_send "Road.send" (defScope st_p_Road_send) f cdv A outer s H E).A.units + 100 < cLine := by
    have := hr.un
    show (A.deeper _).units + 100 < cLine
    omega
  have hu1 : (cxOf (L2.CX P wd) P wd K mg base N_p_Road_send "Road.send" (defScope st_p_Road_send) f cdv A outer s H E).A.units + 1 < cLine := by omega
  have nd := sc_p_Road_send.nd
  have hp : PassesOwn (model P wd) (cxOf (L2.CX P wd) P wd K mg base N_p_Road_send "Road.send" (defScope st_p_Road_send) f cdv A outer s H E).A (cxOf (L2.CX P wd) P wd K mg base N_p_Road_send "Road.send" (defScope st_p_Road_send) f cdv A outer s H E).env (cxOf (L2.CX P wd) P wd K mg base N_p_Road_send "Road.send" (defScope st_p_Road_send) f cdv A outer s H E).xe := passes_of rfl
  exact pss_dcons (ps_ddrop (pd_fn dx h_p_need_turn (hr.mono (by decide)) (pa_dcons (pd_var 2) (pa_dnil))))
      (pss_dcons (ps_dset 3 nd (pd_meth0 dx h_p_Road_next_way (hr.mono (by decide)) (pd_var 0)) rfl (Or.inl rfl))
      (pss_done (ps_dif (pt_dcmp (o_ltS) (pb_of (pd_var 3)) (pb_of (pd_gintE T.m_LOST)))
      (pss_done (ps_dappC (pd_fld T.cl_Road T.na_Road_waiting (pd_var 0)) (pd_tup (pa_dcons (pd_op o_add (pb_of (pd_op o_add (pb_of (pd_var 2)) (pb_of (pd_int)))) (pb_of (pd_var 3))) (pa_dcons (pd_var 1) (pa_dnil))))))
      (pss_done (ps_dif (pt_dcmp (o_gt) (pb_of (pd_var 3)) (pb_of (pd_gintE T.m_LOST)))
      (pss_dcons (ps_dappC (pd_fld T.cl_Road T.na_Road_waiting (pd_var 0)) (pd_tup (pa_dcons (pd_op o_add (pb_of (pd_var 2)) (pb_of (pd_int))) (pa_dcons (pd_var 1) (pa_dnil)))))
      (pss_done (ps_dappC (pd_fld T.cl_Road T.na_Road_waiting (pd_var 0)) (pd_tup (pa_dcons (pd_op o_sub (pb_of (pd_op o_add (pb_of (pd_op o_add (pb_of (pd_var 2)) (pb_of (pd_int)))) (pb_of (pd_var 3)))) (pb_of (pd_gintE T.m_LOST))) (pa_dcons (pd_var 1) (pa_dnil)))))))
      (pss_dnil))))))
theorem w_p_Road_due {P : Program} {wd : World} {K : PySem.W.Frag} {mg : Str → Option Value} {base : Heap} {c_BadTurn c_Road c_BadName c_BadRecord c_BadZone c_BadChange c_BadLine c_BadRow c_BadLetter c_HouseError : Addr} (T : Txt K mg c_BadTurn c_Road c_BadName c_BadRecord c_BadZone c_BadChange c_BadLine c_BadRow c_BadLetter c_HouseError)  (h_p_need_turn : Has P wd K mg base 1 "need_turn" ps_p_need_turn g_p_need_turn)
    {f : Addr} {cdv : Value} {A : Around} {outer : List Env} {s : Shared} {H : Hp} {E : XK} {B : Bs} {EP : Value → Sto → Prop} (hr : Room 1 (A.deeper (envOfC "Road.due" (defScope st_p_Road_due) s.heap.objs.size f cdv)))
    (dx : DX (cxOf (L2.CX P wd) P wd K mg base N_p_Road_due "Road.due" (defScope st_p_Road_due) f cdv A outer s H E) B (fun cls d _ H => E cls d H) (fun c _ S => EP c S)) :
    PSsD (cxOf (L2.CX P wd) P wd K mg base N_p_Road_due "Road.due" (defScope st_p_Road_due) f cdv A outer s H E) B (defBody st_p_Road_due) (t_p_Road_due K c_BadTurn c_Road c_BadName c_BadRecord c_BadZone c_BadChange c_BadLine c_BadRow c_BadLetter c_HouseError fun c _ S => EP c S) := by
  have hu : (cxOf (L2.CX P wd) P wd K mg base N_p_Road_due "Road.due" (defScope st_p_Road_due) f cdv A outer s H E).A.units + 100 < cLine := by
    have := hr.un
    show (A.deeper _).units + 100 < cLine
    omega
  have hu1 : (cxOf (L2.CX P wd) P wd K mg base N_p_Road_due "Road.due" (defScope st_p_Road_due) f cdv A outer s H E).A.units + 1 < cLine := by omega
  have nd := sc_p_Road_due.nd
  have hp : PassesOwn (model P wd) (cxOf (L2.CX P wd) P wd K mg base N_p_Road_due "Road.due" (defScope st_p_Road_due) f cdv A outer s H E).A (cxOf (L2.CX P wd) P wd K mg base N_p_Road_due "Road.due" (defScope st_p_Road_due) f cdv A outer s H E).env (cxOf (L2.CX P wd) P wd K mg base N_p_Road_due "Road.due" (defScope st_p_Road_due) f cdv A outer s H E).xe := passes_of rfl
  exact pss_dcons (ps_ddrop (pd_fn dx h_p_need_turn (hr.mono (by decide)) (pa_dcons (pd_var 1) (pa_dnil))))
      (pss_dcons (ps_dsetLc (ps_setLc (own := [(("when" : Str), 4), (("letter" : Str), 5)]) (i := 2) rfl nd rfl rfl (sw_true rfl rfl rfl (by decide +kernel)) (pi_dlistC (pd_fld T.cl_Road T.na_Road_waiting (pd_var 0))) (blkOk_by (N := N_p_Road_due) (sc := defScope st_p_Road_due) (by decide +kernel)) (fun _ _ _ _ _ => pg_tup rfl (pgs_cons (pg_name (i := 4) nd rfl (Or.inl rfl)) (pgs_cons (pg_name (i := 5) nd rfl (Or.inl rfl)) (pgs_nil))))  (fun _ _ _ _ _ => pts_done (pt_dcmp (o_eq (by exact hu)) (pb_of (pd_var 4)) (pb_of (pd_var 1)))) (fun _ _ _ _ _ => pd_var 5)) (pf_compC (gc_of (gc_tup (gcs_cons (gc_name 4 (by decide)) (gcs_cons (gc_name 5 (by decide)) (gcs_nil)))))))
      (pss_dcons (ps_fldset T.cl_Road T.na_Road_waiting (pd_var 0) (pd_box (pf_lcC (own := [(("pair" : Str), 3)]) rfl nd (pi_dlistC (pd_fld T.cl_Road T.na_Road_waiting (pd_var 0))) (blkOk_by (N := N_p_Road_due) (sc := defScope st_p_Road_due) (by decide +kernel)) (fun _ _ _ _ _ => pg_name (i := 3) nd rfl (Or.inl rfl)) (gc_of (gc_name 3 (by decide))) (fun _ _ _ _ _ => pts_done (pt_dcmp (o_ne (by exact hu)) (pb_of (pd_ix (pb_of (pd_var 3)) (pb_of (pd_int)))) (pb_of (pd_var 1)))) (fun _ _ _ _ _ => pd_var 3))))
      (pss_done (ps_dretO 2))))
theorem w_p_Road_many {P : Program} {wd : World} {K : PySem.W.Frag} {mg : Str → Option Value} {base : Heap} {c_BadTurn c_Road c_BadName c_BadRecord c_BadZone c_BadChange c_BadLine c_BadRow c_BadLetter c_HouseError : Addr} (T : Txt K mg c_BadTurn c_Road c_BadName c_BadRecord c_BadZone c_BadChange c_BadLine c_BadRow c_BadLetter c_HouseError)  
    {f : Addr} {cdv : Value} {A : Around} {outer : List Env} {s : Shared} {H : Hp} {E : XK} {B : Bs} {EP : Value → Sto → Prop} (hr : Room 0 (A.deeper (envOfC "Road.many" (defScope st_p_Road_many) s.heap.objs.size f cdv)))
    (dx : DX (cxOf (L2.CX P wd) P wd K mg base N_p_Road_many "Road.many" (defScope st_p_Road_many) f cdv A outer s H E) B (fun cls d _ H => E cls d H) (fun c _ S => EP c S)) :
    PSsD (cxOf (L2.CX P wd) P wd K mg base N_p_Road_many "Road.many" (defScope st_p_Road_many) f cdv A outer s H E) B (defBody st_p_Road_many) (t_p_Road_many K c_BadTurn c_Road c_BadName c_BadRecord c_BadZone c_BadChange c_BadLine c_BadRow c_BadLetter c_HouseError fun c _ S => EP c S) := by
  have hu : (cxOf (L2.CX P wd) P wd K mg base N_p_Road_many "Road.many" (defScope st_p_Road_many) f cdv A outer s H E).A.units + 100 < cLine := by
    have := hr.un
    show (A.deeper _).units + 100 < cLine
    omega
  have hu1 : (cxOf (L2.CX P wd) P wd K mg base N_p_Road_many "Road.many" (defScope st_p_Road_many) f cdv A outer s H E).A.units + 1 < cLine := by omega
  have nd := sc_p_Road_many.nd
  have hp : PassesOwn (model P wd) (cxOf (L2.CX P wd) P wd K mg base N_p_Road_many "Road.many" (defScope st_p_Road_many) f cdv A outer s H E).A (cxOf (L2.CX P wd) P wd K mg base N_p_Road_many "Road.many" (defScope st_p_Road_many) f cdv A outer s H E).env (cxOf (L2.CX P wd) P wd K mg base N_p_Road_many "Road.many" (defScope st_p_Road_many) f cdv A outer s H E).xe := passes_of rfl
  exact pss_done (ps_dret (pd_callB o_len (by rfl) T.m_len bb_len (pb_cons (pb_of (pd_fld T.cl_Road T.na_Road_waiting (pd_var 0))) (pb_nil))))
theorem w_draw {P : Program} {wd : World} {K : PySem.W.Frag} {mg : Str → Option Value} {base : Heap} {c_BadTurn c_Road c_BadName c_BadRecord c_BadZone c_BadChange c_BadLine c_BadRow c_BadLetter c_HouseError : Addr} (T : Txt K mg c_BadTurn c_Road c_BadName c_BadRecord c_BadZone c_BadChange c_BadLine c_BadRow c_BadLetter c_HouseError)  
    {f : Addr} {cdv : Value} {A : Around} {outer : List Env} {s : Shared} {H : Hp} {E : XK} {B : Bs} {EP : Value → Sto → Prop} (hr : Room 0 (A.deeper (envOfC "_law_draw" (defScope st_draw) s.heap.objs.size f cdv)))
    (dx : DX (cxOf (L2.CX P wd) P wd K mg base N_draw "_law_draw" (defScope st_draw) f cdv A outer s H E) B (fun cls d _ H => E cls d H) (fun c _ S => EP c S)) :
    PSsD (cxOf (L2.CX P wd) P wd K mg base N_draw "_law_draw" (defScope st_draw) f cdv A outer s H E) B (defBody st_draw) (t_draw K c_BadTurn c_Road c_BadName c_BadRecord c_BadZone c_BadChange c_BadLine c_BadRow c_BadLetter c_HouseError fun c _ S => EP c S) := by
  have hu : (cxOf (L2.CX P wd) P wd K mg base N_draw "_law_draw" (defScope st_draw) f cdv A outer s H E).A.units + 100 < cLine := by
    have := hr.un
    show (A.deeper _).units + 100 < cLine
    omega
  have hu1 : (cxOf (L2.CX P wd) P wd K mg base N_draw "_law_draw" (defScope st_draw) f cdv A outer s H E).A.units + 1 < cLine := by omega
  have nd := sc_draw.nd
  have hp : PassesOwn (model P wd) (cxOf (L2.CX P wd) P wd K mg base N_draw "_law_draw" (defScope st_draw) f cdv A outer s H E).A (cxOf (L2.CX P wd) P wd K mg base N_draw "_law_draw" (defScope st_draw) f cdv A outer s H E).env (cxOf (L2.CX P wd) P wd K mg base N_draw "_law_draw" (defScope st_draw) f cdv A outer s H E).xe := passes_of rfl
  exact pss_done (ps_dret (pd_ifExp (pt_dcmp (o_gt) (pb_of (pd_callB o_len (by rfl) T.m_len bb_len (pb_cons (pb_of (pd_var 0)) (pb_nil)))) (pb_of (pd_var 1))) (pd_ix (pb_of (pd_var 0)) (pb_of (pd_var 1))) (pd_int)))
theorem w_spread {P : Program} {wd : World} {K : PySem.W.Frag} {mg : Str → Option Value} {base : Heap} {c_BadTurn c_Road c_BadName c_BadRecord c_BadZone c_BadChange c_BadLine c_BadRow c_BadLetter c_HouseError : Addr} (T : Txt K mg c_BadTurn c_Road c_BadName c_BadRecord c_BadZone c_BadChange c_BadLine c_BadRow c_BadLetter c_HouseError)  
    {f : Addr} {cdv : Value} {A : Around} {outer : List Env} {s : Shared} {H : Hp} {E : XK} {B : Bs} {EP : Value → Sto → Prop} (hr : Room 0 (A.deeper (envOfC "_law_spread" (defScope st_spread) s.heap.objs.size f cdv)))
    (dx : DX (cxOf (L2.CX P wd) P wd K mg base N_spread "_law_spread" (defScope st_spread) f cdv A outer s H E) B (fun cls d _ H => E cls d H) (fun c _ S => EP c S)) :
    PSsD (cxOf (L2.CX P wd) P wd K mg base N_spread "_law_spread" (defScope st_spread) f cdv A outer s H E) B (defBody st_spread) (t_spread K c_BadTurn c_Road c_BadName c_BadRecord c_BadZone c_BadChange c_BadLine c_BadRow c_BadLetter c_HouseError fun c _ S => EP c S) := by
  have hu : (cxOf (L2.CX P wd) P wd K mg base N_spread "_law_spread" (defScope st_spread) f cdv A outer s H E).A.units + 100 < cLine := by
    have := hr.un
    show (A.deeper _).units + 100 < cLine
    omega
  have hu1 : (cxOf (L2.CX P wd) P wd K mg base N_spread "_law_spread" (defScope st_spread) f cdv A outer s H E).A.units + 1 < cLine := by omega
  have nd := sc_spread.nd
  have hp : PassesOwn (model P wd) (cxOf (L2.CX P wd) P wd K mg base N_spread "_law_spread" (defScope st_spread) f cdv A outer s H E).A (cxOf (L2.CX P wd) P wd K mg base N_spread "_law_spread" (defScope st_spread) f cdv A outer s H E).env (cxOf (L2.CX P wd) P wd K mg base N_spread "_law_spread" (defScope st_spread) f cdv A outer s H E).xe := passes_of rfl
  exact pss_done (ps_dret (pd_op o_mod (pb_of (pd_op o_mul (pb_of (pd_op o_add (pb_of (pd_var 0)) (pb_of (pd_int)))) (pb_of (pd_op o_add (pb_of (pd_op o_add (pb_of (pd_int)) (pb_of (pd_op o_mul (pb_of (pd_op o_mul (pb_of (pd_int)) (pb_of (pd_var 1)))) (pb_of (pd_var 1)))))) (pb_of (pd_var 1)))))) (pb_of (pd_int))))
theorem w_alone {P : Program} {wd : World} {K : PySem.W.Frag} {mg : Str → Option Value} {base : Heap} {c_BadTurn c_Road c_BadName c_BadRecord c_BadZone c_BadChange c_BadLine c_BadRow c_BadLetter c_HouseError : Addr} (T : Txt K mg c_BadTurn c_Road c_BadName c_BadRecord c_BadZone c_BadChange c_BadLine c_BadRow c_BadLetter c_HouseError)  
    {f : Addr} {cdv : Value} {A : Around} {outer : List Env} {s : Shared} {H : Hp} {E : XK} {B : Bs} {EP : Value → Sto → Prop} (hr : Room 0 (A.deeper (envOfC "_law_alone" (defScope st_alone) s.heap.objs.size f cdv)))
    (dx : DX (cxOf (L2.CX P wd) P wd K mg base N_alone "_law_alone" (defScope st_alone) f cdv A outer s H E) B (fun cls d _ H => E cls d H) (fun c _ S => EP c S)) :
    PSsD (cxOf (L2.CX P wd) P wd K mg base N_alone "_law_alone" (defScope st_alone) f cdv A outer s H E) B (defBody st_alone) (t_alone K c_BadTurn c_Road c_BadName c_BadRecord c_BadZone c_BadChange c_BadLine c_BadRow c_BadLetter c_HouseError fun c _ S => EP c S) := by
  have hu : (cxOf (L2.CX P wd) P wd K mg base N_alone "_law_alone" (defScope st_alone) f cdv A outer s H E).A.units + 100 < cLine := by
    have := hr.un
    show (A.deeper _).units + 100 < cLine
    omega
  have hu1 : (cxOf (L2.CX P wd) P wd K mg base N_alone "_law_alone" (defScope st_alone) f cdv A outer s H E).A.units + 1 < cLine := by omega
  have nd := sc_alone.nd
  have hp : PassesOwn (model P wd) (cxOf (L2.CX P wd) P wd K mg base N_alone "_law_alone" (defScope st_alone) f cdv A outer s H E).A (cxOf (L2.CX P wd) P wd K mg base N_alone "_law_alone" (defScope st_alone) f cdv A outer s H E).env (cxOf (L2.CX P wd) P wd K mg base N_alone "_law_alone" (defScope st_alone) f cdv A outer s H E).xe := passes_of rfl
  exact pss_dcons (ps_dif ((pw_dor (pt_dcmp (o_isN) (pb_of (pd_var 0)) (pb_of (pd_non))) (pw_dor1 (pt_dnot (pt_d (pd_callB o_isi (by rfl) T.m_isinstance bb_isinstance (pb_cons (pb_of (pd_var 0)) (pb_cons (pb_of (pd_ty (by rfl) T.m_ValueError bb_ValueError)) (pb_nil)))))))).pt)
      (pss_done (ps_dret (pd_and (pd_cmp (o_eq hu) (pb_of (pd_var 1)) (pb_of (pd_str))) (pd_one (pd_cmp (o_isN) (pb_of (pd_var 0)) (pb_of (pd_non)))))))
      (pss_dnil))
      (pss_dcons (ps_dset 2 nd (pd_op o_add (pb_of (pd_op o_mul (pb_of (pd_str)) (pb_of (pd_callTy o_int (by rfl) T.m_int bb_int (pb_cons (pb_of (pd_callB o_isi (by rfl) T.m_isinstance bb_isinstance (pb_cons (pb_of (pd_var 0)) (pb_cons (pb_of (pd_gcls (by rfl) T.m_BadName)) (pb_nil))))) (pb_nil)))))) (pb_of (pd_op o_mul (pb_of (pd_str)) (pb_of (pd_callTy o_int (by rfl) T.m_int bb_int (pb_cons (pb_of (pd_callB o_isi (by rfl) T.m_isinstance bb_isinstance (pb_cons (pb_of (pd_var 0)) (pb_cons (pb_of (pd_gcls (by rfl) T.m_BadRecord)) (pb_nil))))) (pb_nil))))))) rfl (Or.inl rfl))
      (pss_dcons (ps_dset 2 nd (pd_op o_add (pb_of (pd_op o_add (pb_of (pd_var 2)) (pb_of (pd_op o_mul (pb_of (pd_str)) (pb_of (pd_callTy o_int (by rfl) T.m_int bb_int (pb_cons (pb_of (pd_callB o_isi (by rfl) T.m_isinstance bb_isinstance (pb_cons (pb_of (pd_var 0)) (pb_cons (pb_of (pd_gcls (by rfl) T.m_BadTurn)) (pb_nil))))) (pb_nil)))))))) (pb_of (pd_op o_mul (pb_of (pd_str)) (pb_of (pd_callTy o_int (by rfl) T.m_int bb_int (pb_cons (pb_of (pd_callB o_isi (by rfl) T.m_isinstance bb_isinstance (pb_cons (pb_of (pd_var 0)) (pb_cons (pb_of (pd_gcls (by rfl) T.m_BadZone)) (pb_nil))))) (pb_nil))))))) rfl (Or.inl rfl))
      (pss_dcons (ps_dset 2 nd (pd_op o_add (pb_of (pd_var 2)) (pb_of (pd_op o_mul (pb_of (pd_str)) (pb_of (pd_callTy o_int (by rfl) T.m_int bb_int (pb_cons (pb_of (pd_callB o_isi (by rfl) T.m_isinstance bb_isinstance (pb_cons (pb_of (pd_var 0)) (pb_cons (pb_of (pd_gcls (by rfl) T.m_BadChange)) (pb_nil))))) (pb_nil))))))) rfl (Or.inl rfl))
      (pss_done (ps_dret (pd_cmp (o_eq hu) (pb_of (pd_op o_add (pb_of (pd_var 2)) (pb_of (pd_op o_mul (pb_of (pd_str)) (pb_of (pd_callTy o_int (by rfl) T.m_int bb_int (pb_cons (pb_of (pd_callB o_isi (by rfl) T.m_isinstance bb_isinstance (pb_cons (pb_of (pd_var 0)) (pb_cons (pb_of (pd_tup (pa_dcons (pd_gcls (by rfl) T.m_BadLetter) (pa_dcons (pd_gcls (by rfl) T.m_BadRow) (pa_dcons (pd_gcls (by rfl) T.m_BadLine) (pa_dnil)))))) (pb_nil))))) (pb_nil)))))))) (pb_of (pd_var 1))))))))
theorem w_row {P : Program} {wd : World} {K : PySem.W.Frag} {mg : Str → Option Value} {base : Heap} {c_BadTurn c_Road c_BadName c_BadRecord c_BadZone c_BadChange c_BadLine c_BadRow c_BadLetter c_HouseError : Addr} (T : Txt K mg c_BadTurn c_Road c_BadName c_BadRecord c_BadZone c_BadChange c_BadLine c_BadRow c_BadLetter c_HouseError)  (h_spread : Has P wd K mg base 1 "_law_spread" ps_spread g_spread) (h_draw : Has P wd K mg base 1 "_law_draw" ps_draw g_draw)
    {f : Addr} {cdv : Value} {A : Around} {outer : List Env} {s : Shared} {H : Hp} {E : XK} {B : Bs} {EP : Value → Sto → Prop} (hr : Room 1 (A.deeper (envOfC "_law_row" (defScope st_row) s.heap.objs.size f cdv)))
    (dx : DX (cxOf (L2.CX P wd) P wd K mg base N_row "_law_row" (defScope st_row) f cdv A outer s H E) B (fun cls d _ H => E cls d H) (fun c _ S => EP c S)) :
    PSsD (cxOf (L2.CX P wd) P wd K mg base N_row "_law_row" (defScope st_row) f cdv A outer s H E) B (defBody st_row) (t_row K c_BadTurn c_Road c_BadName c_BadRecord c_BadZone c_BadChange c_BadLine c_BadRow c_BadLetter c_HouseError fun c _ S => EP c S) := by
  have hu : (cxOf (L2.CX P wd) P wd K mg base N_row "_law_row" (defScope st_row) f cdv A outer s H E).A.units + 100 < cLine := by
    have := hr.un
    show (A.deeper _).units + 100 < cLine
    omega
  have hu1 : (cxOf (L2.CX P wd) P wd K mg base N_row "_law_row" (defScope st_row) f cdv A outer s H E).A.units + 1 < cLine := by omega
  have nd := sc_row.nd
  have hp : PassesOwn (model P wd) (cxOf (L2.CX P wd) P wd K mg base N_row "_law_row" (defScope st_row) f cdv A outer s H E).A (cxOf (L2.CX P wd) P wd K mg base N_row "_law_row" (defScope st_row) f cdv A outer s H E).env (cxOf (L2.CX P wd) P wd K mg base N_row "_law_row" (defScope st_row) f cdv A outer s H E).xe := passes_of rfl
  exact pss_dcons (ps_dset 1 nd (pd_fn dx h_spread (hr.mono (by decide)) (pa_dcons (pd_fn dx h_draw (hr.mono (by decide)) (pa_dcons (pd_var 0) (pa_dcons (pd_int) (pa_dnil)))) (pa_dcons (pd_int) (pa_dnil)))) rfl (Or.inl rfl))
      (pss_dcons (ps_dset 2 nd (pd_op o_mod (pb_of (pd_var 1)) (pb_of (pd_int))) rfl (Or.inl rfl))
      (pss_dcons (ps_dsetF 3 nd (pf_lst (pa_dnil)) rfl (Or.inl rfl))
      (pss_dcons (ps_dfor hp rfl (pi_drange1 (by rfl) T.m_range (pa_dcons (pd_op o_mod (pb_of (pd_op o_fdiv (pb_of (pd_var 1)) (pb_of (pd_int)))) (pb_of (pd_int))) (pa_dnil))) (pg_dname 4 nd rfl (Or.inl rfl)) (fun B u1 => pss_dcons (ps_dset 5 nd (pd_fn (dx.up u1) h_spread (hr.mono (by decide)) (pa_dcons (pd_fn (dx.up u1) h_draw (hr.mono (by decide)) (pa_dcons (pd_var 0) (pa_dcons (pd_op o_add (pb_of (pd_int)) (pb_of (pd_op o_mod (pb_of (pd_var 4)) (pb_of (pd_int))))) (pa_dnil)))) (pa_dcons (pd_var 4) (pa_dnil)))) rfl (Or.inl rfl))
      (pss_done (ps_dapp 3 (pd_ix (pb_of (pd_fz (pf_lst (pa_dcons (pd_op o_mod (pb_of (pd_var 5)) (pb_of (pd_int))) (pa_dcons (pd_op o_mod (pb_of (pd_var 5)) (pb_of (pd_int))) (pa_dcons (pd_ix (pb_of (pd_fz (pf_lst (pa_dcons (pd_int) (pa_dcons (pd_int) (pa_dnil)))))) (pb_of (pd_op o_mod (pb_of (pd_var 5)) (pb_of (pd_int))))) (pa_dcons (pd_op o_add (pb_of (pd_int)) (pb_of (pd_op o_mod (pb_of (pd_var 5)) (pb_of (pd_int))))) (pa_dcons (pd_ix (pb_of (pd_fz (pf_lst (pa_dcons (pd_int) (pa_dcons (pd_int) (pa_dcons (pd_int) (pa_dcons (pd_int) (pa_dcons (pd_int) (pa_dcons (pd_int) (pa_dnil)))))))))) (pb_of (pd_op o_mod (pb_of (pd_var 5)) (pb_of (pd_int))))) (pa_dnil))))))))) (pb_of (pd_var 2)))))))
      (pss_done (ps_dretO 3)))))
theorem w_sent {P : Program} {wd : World} {K : PySem.W.Frag} {mg : Str → Option Value} {base : Heap} {c_BadTurn c_Road c_BadName c_BadRecord c_BadZone c_BadChange c_BadLine c_BadRow c_BadLetter c_HouseError : Addr} (T : Txt K mg c_BadTurn c_Road c_BadName c_BadRecord c_BadZone c_BadChange c_BadLine c_BadRow c_BadLetter c_HouseError)  
    {f : Addr} {cdv : Value} {A : Around} {outer : List Env} {s : Shared} {H : Hp} {E : XK} {B : Bs} {EP : Value → Sto → Prop} (hr : Room 0 (A.deeper (envOfC "_law_sent" (defScope st_sent) s.heap.objs.size f cdv)))
    (dx : DX (cxOf (L2.CX P wd) P wd K mg base N_sent "_law_sent" (defScope st_sent) f cdv A outer s H E) B (fun cls d _ H => E cls d H) (fun c _ S => EP c S)) :
    PSsD (cxOf (L2.CX P wd) P wd K mg base N_sent "_law_sent" (defScope st_sent) f cdv A outer s H E) B (defBody st_sent) (t_sent K c_BadTurn c_Road c_BadName c_BadRecord c_BadZone c_BadChange c_BadLine c_BadRow c_BadLetter c_HouseError fun c _ S => EP c S) := by
  have hu : (cxOf (L2.CX P wd) P wd K mg base N_sent "_law_sent" (defScope st_sent) f cdv A outer s H E).A.units + 100 < cLine := by
    have := hr.un
    show (A.deeper _).units + 100 < cLine
    omega
  have hu1 : (cxOf (L2.CX P wd) P wd K mg base N_sent "_law_sent" (defScope st_sent) f cdv A outer s H E).A.units + 1 < cLine := by omega
  have nd := sc_sent.nd
  have hp : PassesOwn (model P wd) (cxOf (L2.CX P wd) P wd K mg base N_sent "_law_sent" (defScope st_sent) f cdv A outer s H E).A (cxOf (L2.CX P wd) P wd K mg base N_sent "_law_sent" (defScope st_sent) f cdv A outer s H E).env (cxOf (L2.CX P wd) P wd K mg base N_sent "_law_sent" (defScope st_sent) f cdv A outer s H E).xe := passes_of rfl
  exact pss_dcons (ps_dset 5 nd (pd_ifExp (pt_dcmp (o_ne hu) (pb_of (pd_var 1)) (pb_of (pd_fz (pf_lst (pa_dnil))))) (pd_ix (pb_of (pd_var 1)) (pb_of (pd_op o_mod (pb_of (pd_var 2)) (pb_of (pd_callB o_len (by rfl) T.m_len bb_len (pb_cons (pb_of (pd_var 1)) (pb_nil))))))) (pd_int)) rfl (Or.inl rfl))
      (pss_dcons (ps_dif (pt_dcmp (o_eq hu) (pb_of (pd_var 5)) (pb_of (pd_int)))
      (pss_done (ps_dret (pd_var 0)))
      (pss_dnil))
      (pss_dcons (ps_dif (pt_dcmp (o_ltS) (pb_of (pd_var 5)) (pb_of (pd_int)))
      (pss_done (ps_dret (pd_fz (pf_op o_cat (pb_of (pd_var 0)) (pb_of (pd_fz (pf_lst (pa_dcons (pd_tup (pa_dcons (pd_op o_add (pb_of (pd_op o_add (pb_of (pd_var 4)) (pb_of (pd_int)))) (pb_of (pd_var 5))) (pa_dcons (pd_var 3) (pa_dnil)))) (pa_dnil)))))))))
      (pss_dnil))
      (pss_done (ps_dret (pd_fz (pf_op o_cat (pb_of (pd_var 0)) (pb_of (pd_fz (pf_lst (pa_dcons (pd_tup (pa_dcons (pd_op o_add (pb_of (pd_var 4)) (pb_of (pd_int))) (pa_dcons (pd_var 3) (pa_dnil)))) (pa_dcons (pd_tup (pa_dcons (pd_op o_sub (pb_of (pd_op o_add (pb_of (pd_op o_add (pb_of (pd_var 4)) (pb_of (pd_int)))) (pb_of (pd_var 5)))) (pb_of (pd_int))) (pa_dcons (pd_var 3) (pa_dnil)))) (pa_dnil))))))))))))
theorem w_refused {P : Program} {wd : World} {K : PySem.W.Frag} {mg : Str → Option Value} {base : Heap} {c_BadTurn c_Road c_BadName c_BadRecord c_BadZone c_BadChange c_BadLine c_BadRow c_BadLetter c_HouseError : Addr} (T : Txt K mg c_BadTurn c_Road c_BadName c_BadRecord c_BadZone c_BadChange c_BadLine c_BadRow c_BadLetter c_HouseError)  (h_p_Road_init : HasI P wd K mg base 2 "Road" c_Road ps_p_Road_init (g_p_Road_init c_Road c_BadTurn)) (h_alone : Has P wd K mg base 1 "_law_alone" ps_alone (g_alone c_BadTurn))
    {f : Addr} {cdv : Value} {A : Around} {outer : List Env} {s : Shared} {H : Hp} {E : XK} {B : Bs} {EP : Value → Sto → Prop} (hr : Room 3 (A.deeper (envOfC "_law_refused" (defScope st_refused) s.heap.objs.size f cdv)))
    (dx : DX (cxOf (L2.CX P wd) P wd K mg base N_refused "_law_refused" (defScope st_refused) f cdv A outer s H E) B (fun cls d _ H => E cls d H) (fun c _ S => EP c S)) :
    PSsD (cxOf (L2.CX P wd) P wd K mg base N_refused "_law_refused" (defScope st_refused) f cdv A outer s H E) B (defBody st_refused) (t_refused K c_BadTurn c_Road c_BadName c_BadRecord c_BadZone c_BadChange c_BadLine c_BadRow c_BadLetter c_HouseError fun c _ S => EP c S) := by
  have hu : (cxOf (L2.CX P wd) P wd K mg base N_refused "_law_refused" (defScope st_refused) f cdv A outer s H E).A.units + 100 < cLine := by
    have := hr.un
    show (A.deeper _).units + 100 < cLine
    omega
  have hu1 : (cxOf (L2.CX P wd) P wd K mg base N_refused "_law_refused" (defScope st_refused) f cdv A outer s H E).A.units + 1 < cLine := by omega
  have nd := sc_refused.nd
  have hp : PassesOwn (model P wd) (cxOf (L2.CX P wd) P wd K mg base N_refused "_law_refused" (defScope st_refused) f cdv A outer s H E).A (cxOf (L2.CX P wd) P wd K mg base N_refused "_law_refused" (defScope st_refused) f cdv A outer s H E).env (cxOf (L2.CX P wd) P wd K mg base N_refused "_law_refused" (defScope st_refused) f cdv A outer s H E).xe := passes_of rfl
  exact pss_dcons (ps_dset 1 nd (pd_non) rfl (Or.inl rfl))
      (pss_dcons (ps_dtry rfl rfl rfl nd dx 2 rfl rfl ⟨rfl, by decide, Or.inl T.m_HouseError⟩ (fun W ewT pn xe dxT hp => pss_done (ps_ddrop (pd_make dxT h_p_Road_init (hr.mono (by decide)) (pa_dcons (pd_ix (pb_of (pd_fz (pf_lst (pa_dcons (pd_non) (pa_dcons (pd_tup (pa_dcons (pd_int) (pa_dcons (pd_int) (pa_dnil)))) (pa_dcons (pd_str) (pa_dcons (pd_fz (pf_lst (pa_dcons (pd_int) (pa_dnil)))) (pa_dcons (pd_fz (pf_lst (pa_dcons (pd_neg (pd_int)) (pa_dnil)))) (pa_dcons (pd_fz (pf_lst (pa_dcons (pd_bl) (pa_dnil)))) (pa_dcons (pd_fz (pf_op o_repL (pb_of (pd_fz (pf_lst (pa_dcons (pd_int) (pa_dnil))))) (pb_of (pd_int)))) (pa_dcons (pd_fz (pf_lst (pa_dcons (pd_str) (pa_dnil)))) (pa_dcons (pd_int) (pa_dnil))))))))))))) (pb_of (pd_op o_mod (pb_of (pd_var 0)) (pb_of (pd_int))))) (pa_dnil)))))
      (fun a pn => pss_done (ps_dset 1 nd (pd_var 2) rfl (Or.inl rfl))))
      (pss_done (ps_dret (pd_fn dx h_alone (hr.mono (by decide)) (pa_dcons (pd_var 1) (pa_dcons (pd_str) (pa_dnil)))))))
theorem w_law {P : Program} {wd : World} {K : PySem.W.Frag} {mg : Str → Option Value} {base : Heap} {c_BadTurn c_Road c_BadName c_BadRecord c_BadZone c_BadChange c_BadLine c_BadRow c_BadLetter c_HouseError : Addr} (T : Txt K mg c_BadTurn c_Road c_BadName c_BadRecord c_BadZone c_BadChange c_BadLine c_BadRow c_BadLetter c_HouseError)  (h_row : Has P wd K mg base 2 "_law_row" ps_row g_row) (h_p_Road_init : HasI P wd K mg base 2 "Road" c_Road ps_p_Road_init (g_p_Road_init c_Road c_BadTurn)) (h_draw : Has P wd K mg base 1 "_law_draw" ps_draw g_draw) (h_spread : Has P wd K mg base 1 "_law_spread" ps_spread g_spread) (h_p_Road_send : HasM P wd K mg base 2 c_Road "send" ps_p_Road_send (g_p_Road_send c_Road)) (h_sent : Has P wd K mg base 1 "_law_sent" ps_sent g_sent) (h_refused : Has P wd K mg base 4 "_law_refused" ps_refused (g_refused c_Road)) (h_p_Road_many : HasM P wd K mg base 1 c_Road "many" ps_p_Road_many (g_p_Road_many c_Road)) (h_p_Road_due : HasM P wd K mg base 2 c_Road "due" ps_p_Road_due (g_p_Road_due c_Road))
    {f : Addr} {cdv : Value} {A : Around} {outer : List Env} {s : Shared} {H : Hp} {E : XK} {B : Bs} {EP : Value → Sto → Prop} (hr : Room 4 (A.deeper (envOfC "law" (defScope st_law) s.heap.objs.size f cdv)))
    (dx : DX (cxOf (L2.CX P wd) P wd K mg base N_law "law" (defScope st_law) f cdv A outer s H E) B (fun cls d _ H => E cls d H) (fun c _ S => EP c S)) :
    PSsD (cxOf (L2.CX P wd) P wd K mg base N_law "law" (defScope st_law) f cdv A outer s H E) B (defBody st_law) (t_law K c_BadTurn c_Road c_BadName c_BadRecord c_BadZone c_BadChange c_BadLine c_BadRow c_BadLetter c_HouseError fun c _ S => EP c S) := by
  have hu : (cxOf (L2.CX P wd) P wd K mg base N_law "law" (defScope st_law) f cdv A outer s H E).A.units + 100 < cLine := by
    have := hr.un
    show (A.deeper _).units + 100 < cLine
    omega
  have hu1 : (cxOf (L2.CX P wd) P wd K mg base N_law "law" (defScope st_law) f cdv A outer s H E).A.units + 1 < cLine := by omega
  have nd := sc_law.nd
  have hp : PassesOwn (model P wd) (cxOf (L2.CX P wd) P wd K mg base N_law "law" (defScope st_law) f cdv A outer s H E).A (cxOf (L2.CX P wd) P wd K mg base N_law "law" (defScope st_law) f cdv A outer s H E).env (cxOf (L2.CX P wd) P wd K mg base N_law "law" (defScope st_law) f cdv A outer s H E).xe := passes_of rfl
  exact pss_dcons (ps_dset 1 nd (pd_fn dx h_row (hr.mono (by decide)) (pa_dcons (pd_var 0) (pa_dnil))) rfl (Or.inl rfl))
      (pss_dcons (ps_dset 2 nd (pd_box (pf_callTy o_list (by rfl) T.m_list bb_list (pb_cons (pb_of (pd_var 1)) (pb_nil)))) rfl (Or.inl rfl))
      (pss_dcons (ps_dset 3 nd (pd_make dx h_p_Road_init (hr.mono (by decide)) (pa_dcons (pd_var 2) (pa_dnil))) rfl (Or.inl rfl))
      (pss_dcons (ps_dappC (pd_var 2) (pd_int))
      (pss_dcons (ps_dset 4 nd (pd_fz (pf_lst (pa_dnil))) rfl (Or.inl rfl))
      (pss_dcons (ps_dset 5 nd (pd_int) rfl (Or.inl rfl))
      (pss_dcons (ps_dset 6 nd (pd_op o_mod (pb_of (pd_fn dx h_draw (hr.mono (by decide)) (pa_dcons (pd_var 0) (pa_dcons (pd_int) (pa_dnil))))) (pb_of (pd_op o_pow (pb_of (pd_int)) (pb_of (pd_int))))) rfl (Or.inr rfl))
      (pss_dcons (ps_dfor hp rfl (pi_drange1 (by rfl) T.m_range (pa_dcons (pd_callB (o_max2 rfl) (by rfl) T.m_max bb_max (pb_cons (pb_of (pd_int)) (pb_cons (pb_of (pd_op o_sub (pb_of (pd_callB o_len (by rfl) T.m_len bb_len (pb_cons (pb_of (pd_var 0)) (pb_nil)))) (pb_of (pd_int)))) (pb_nil)))) (pa_dnil))) (pg_dname 7 nd rfl (Or.inl rfl)) (fun B u2 => pss_dcons (ps_dset 9 nd (pd_fn (dx.up u2) h_spread (hr.mono (by decide)) (pa_dcons (pd_ix (pb_of (pd_var 0)) (pb_of (pd_op o_add (pb_of (pd_int)) (pb_of (pd_var 7))))) (pa_dcons (pd_var 7) (pa_dnil)))) rfl (Or.inl rfl))
      (pss_dcons (ps_dfor hp rfl (pi_drange1 (by rfl) T.m_range (pa_dcons (pd_ifExp (pt_dcmp (o_ltS) (pb_of (pd_var 5)) (pb_of (pd_int))) (pd_ix (pb_of (pd_fz (pf_lst (pa_dcons (pd_int) (pa_dcons (pd_int) (pa_dcons (pd_int) (pa_dcons (pd_int) (pa_dcons (pd_int) (pa_dnil))))))))) (pb_of (pd_op o_mod (pb_of (pd_var 9)) (pb_of (pd_int))))) (pd_int)) (pa_dnil))) (pg_dname 8 nd rfl (Or.inl rfl)) (fun B u3 => pss_dcons (ps_dset 11 nd (pd_ix (pb_of (pd_fz (pf_lst (pa_dcons (pd_tup (pa_dcons (pd_str) (pa_dcons (pd_var 5) (pa_dnil)))) (pa_dcons (pd_str) (pa_dcons (pd_non) (pa_dcons (pd_tup (pa_dcons (pd_op o_fdiv (pb_of (pd_var 5)) (pb_of (pd_int))) (pa_dcons (pd_str) (pa_dnil)))) (pa_dnil)))))))) (pb_of (pd_op o_mod (pb_of (pd_op o_fdiv (pb_of (pd_var 9)) (pb_of (pd_op o_add (pb_of (pd_int)) (pb_of (pd_var 8)))))) (pb_of (pd_int))))) rfl (Or.inl rfl))
      (pss_dcons (ps_dif (pt_dcmp (o_notN) (pb_of (pd_meth ((dx.up u2).up u3) h_p_Road_send (hr.mono (by decide)) (pd_var 3) (pa_dcons (pd_var 11) (pa_dcons (pd_var 6) (pa_dnil))))) (pb_of (pd_non)))
      (pss_done (ps_dret (pd_bl)))
      (pss_dnil))
      (pss_dcons (ps_dset 4 nd (pd_fn ((dx.up u2).up u3) h_sent (hr.mono (by decide)) (pa_dcons (pd_var 4) (pa_dcons (pd_var 1) (pa_dcons (pd_var 5) (pa_dcons (pd_var 11) (pa_dcons (pd_var 6) (pa_dnil))))))) rfl (Or.inl rfl))
      (pss_done (ps_dset 5 nd (pd_op o_add (pb_of (pd_var 5)) (pb_of (pd_int))) rfl (Or.inl rfl)))))))
      (pss_dcons (ps_dif ((pw_dor (pt_dnot (pt_d (pd_fn (dx.up u2) h_refused (hr.mono (by decide)) (pa_dcons (pd_op o_fdiv (pb_of (pd_var 9)) (pb_of (pd_int))) (pa_dnil))))) (pw_dor1 (pt_dcmp (o_ne hu) (pb_of (pd_meth0 (dx.up u2) h_p_Road_many (hr.mono (by decide)) (pd_var 3))) (pb_of (pd_callB o_len (by rfl) T.m_len bb_len (pb_cons (pb_of (pd_var 4)) (pb_nil))))))).pt)
      (pss_done (ps_dret (pd_bl)))
      (pss_dnil))
      (pss_dcons (ps_dset 6 nd (pd_op o_add (pb_of (pd_op o_add (pb_of (pd_var 6)) (pb_of (pd_int)))) (pb_of (pd_op o_fdiv (pb_of (pd_op o_mod (pb_of (pd_op o_fdiv (pb_of (pd_var 9)) (pb_of (pd_int)))) (pb_of (pd_int)))) (pb_of (pd_int))))) rfl (Or.inr rfl))
      (pss_done (ps_dfor hp rfl (pi_drange1 (by rfl) T.m_range (pa_dcons (pd_op o_add (pb_of (pd_int)) (pb_of (pd_op o_mod (pb_of (pd_op o_fdiv (pb_of (pd_var 9)) (pb_of (pd_int)))) (pb_of (pd_int))))) (pa_dnil))) (pg_dname 10 nd rfl (Or.inl rfl)) (fun B u4 => pss_dcons (ps_dsetF 12 nd (pf_meth ((dx.up u2).up u4) h_p_Road_due (hr.mono (by decide)) (pd_var 3) (pa_dcons (pd_var 6) (pa_dnil))) rfl (Or.inl rfl))
      (pss_dcons (ps_dsetLcZ (ps_setLc (own := [(("_law_when" : Str), 15), (("_law_thing" : Str), 11)]) (i := 13) rfl nd rfl rfl (sw_true rfl rfl rfl (by decide +kernel)) (pi_dlist (pd_var 4)) (blkOk_by (N := N_law) (sc := defScope st_law) (by decide +kernel)) (fun _ _ _ _ _ => pg_tup rfl (pgs_cons (pg_name (i := 15) nd rfl (Or.inl rfl)) (pgs_cons (pg_name (i := 11) nd rfl (Or.inl rfl)) (pgs_nil))))  (fun _ _ _ _ _ => pts_done (pt_dcmp (o_eq (by exact hu)) (pb_of (pd_var 15)) (pb_of (pd_var 6)))) (fun _ _ _ _ _ => pd_var 11)) (pf_comp (gc_of (gc_tup (gcs_cons (gc_name 15 (by decide)) (gcs_cons (gc_name 11 (by decide)) (gcs_nil)))))))
      (pss_dcons (ps_dsetLcZ (ps_setLc (own := [(("_law_pair" : Str), 14)]) (i := 4) rfl nd rfl rfl (sw_true rfl rfl rfl (by decide +kernel)) (pi_dlist (pd_var 4)) (blkOk_by (N := N_law) (sc := defScope st_law) (by decide +kernel)) (fun _ _ _ _ _ => pg_name (i := 14) nd rfl (Or.inl rfl))  (fun _ _ _ _ _ => pts_done (pt_dcmp (o_ne (by exact hu)) (pb_of (pd_ix (pb_of (pd_var 14)) (pb_of (pd_int)))) (pb_of (pd_var 6)))) (fun _ _ _ _ _ => pd_var 14)) (pf_comp (gc_of (gc_name 14 (by decide)))))
      (pss_dcons (ps_dif ((pw_dor (pt_dnot (pt_d (pd_callB o_isi (by rfl) T.m_isinstance bb_isinstance (pb_cons (pb_var 12) (pb_cons (pb_of (pd_ty (by rfl) T.m_list bb_list)) (pb_nil)))))) (pw_dor (pt_dcmp (o_ne hu) (pb_var 12) (pb_of (pd_var 13))) (pw_dor1 (pt_dcmp (o_ne hu) (pb_of (pd_meth0 ((dx.up u2).up u4) h_p_Road_many (hr.mono (by decide)) (pd_var 3))) (pb_of (pd_callB o_len (by rfl) T.m_len bb_len (pb_cons (pb_of (pd_var 4)) (pb_nil)))))))).pt)
      (pss_done (ps_dret (pd_bl)))
      (pss_dnil))
      (pss_done (ps_dapp 12 (pd_str))))))))))))))
      (pss_dcons (ps_dfor hp rfl (pi_drange1 (by rfl) T.m_range (pa_dcons (pd_int) (pa_dnil))) (pg_dname 8 nd rfl (Or.inl rfl)) (fun B u5 => pss_dcons (ps_dset 6 nd (pd_op o_add (pb_of (pd_var 6)) (pb_of (pd_int))) rfl (Or.inr rfl))
      (pss_dcons (ps_dif (pt_dcmp (o_ne hu) (pb_of (pd_meth (dx.up u5) h_p_Road_due (hr.mono (by decide)) (pd_var 3) (pa_dcons (pd_var 6) (pa_dnil)))) (pb_of (pd_fz (pf_lc (own := [(("_law_when" : Str), 15), (("_law_thing" : Str), 11)]) rfl nd (pi_dlist (pd_var 4)) (blkOk_by (N := N_law) (sc := defScope st_law) (by decide +kernel)) (fun _ _ _ _ _ => pg_tup rfl (pgs_cons (pg_name (i := 15) nd rfl (Or.inl rfl)) (pgs_cons (pg_name (i := 11) nd rfl (Or.inl rfl)) (pgs_nil)))) (gc_of (gc_tup (gcs_cons (gc_name 15 (by decide)) (gcs_cons (gc_name 11 (by decide)) (gcs_nil))))) (fun _ _ _ _ _ => pts_done (pt_dcmp (o_eq (by exact hu)) (pb_of (pd_var 15)) (pb_of (pd_var 6)))) (fun _ _ _ _ _ => pd_var 11)))))
      (pss_done (ps_dret (pd_bl)))
      (pss_dnil))
      (pss_done (ps_dsetLcZ (ps_setLc (own := [(("_law_pair" : Str), 14)]) (i := 4) rfl nd rfl rfl (sw_true rfl rfl rfl (by decide +kernel)) (pi_dlist (pd_var 4)) (blkOk_by (N := N_law) (sc := defScope st_law) (by decide +kernel)) (fun _ _ _ _ _ => pg_name (i := 14) nd rfl (Or.inl rfl))  (fun _ _ _ _ _ => pts_done (pt_dcmp (o_ne (by exact hu)) (pb_of (pd_ix (pb_of (pd_var 14)) (pb_of (pd_int)))) (pb_of (pd_var 6)))) (fun _ _ _ _ _ => pd_var 14)) (pf_comp (gc_of (gc_name 14 (by decide)))))))))
      (pss_done (ps_dret (pd_and (pd_cmp (o_eq hu) (pb_of (pd_meth0 dx h_p_Road_many (hr.mono (by decide)) (pd_var 3))) (pb_of (pd_callB o_len (by rfl) T.m_len bb_len (pb_cons (pb_of (pd_var 4)) (pb_nil))))) (pd_one (pd_not (pd_callB o_isi (by rfl) T.m_isinstance bb_isinstance (pb_cons (pb_of (pd_meth0 dx h_p_Road_many (hr.mono (by decide)) (pd_var 3))) (pb_cons (pb_of (pd_ty (by rfl) T.m_bool bb_bool)) (pb_nil)))))))))))))))))
end DL.K21
namespace DL.K21
open PySem PySem.Spec PyProof.Rows L2
section
variable {K : PySem.W.Frag} {c_BadTurn c_Road c_BadName c_BadRecord c_BadZone c_BadChange c_BadLine c_BadRow c_BadLetter c_HouseError : Addr} {S : Sto} {P : W → Sto → Prop} {EP : Value → Sto → Prop}
abbrev EE (EP : Value → Sto → Prop) : EW := fun c _ S => EP c S
abbrev DDs (P : W → Sto → Prop) : DEnds := { nx := fun _ S' => P (.d .non) S', rt := P }
/-! ### the store -/
theorem cell_app : ∀ {S : Sto} {n : Nat} {o : O} (t : Sto), cellAt S n = some o → cellAt (S ++ t) n = some o
  | _ :: _, 0, _, _, h => h
  | _ :: S, n + 1, _, t, h => cell_app (S := S) t h
theorem cell_new : ∀ (S : Sto) (o : O) (t : Sto), cellAt (S ++ o :: t) S.length = some o
  | [], _, _ => rfl
  | _ :: S, o, t => cell_new S o t
theorem cell_set : ∀ {S : Sto} {n : Nat} {o : O} (o' : O), cellAt S n = some o → cellAt (S.set n o') n = some o'
  | _ :: _, 0, _, _, _ => rfl
  | _ :: S, n + 1, _, o', h => cell_set (S := S) o' h
theorem cell_ne : ∀ {S : Sto} {n m : Nat} (o' : O), n ≠ m → cellAt (S.set n o') m = cellAt S m
  | [], _, _, _, _ => rfl
  | _ :: _, 0, 0, _, h => absurd rfl h
  | _ :: _, 0, m + 1, _, _ => rfl
  | _ :: _, n + 1, 0, _, _ => rfl
  | _ :: S, n + 1, m + 1, o', h => cell_ne (S := S) o' fun e => h (by rw [e])
theorem der_lst {S : Sto} {m : Nat} {ds : List D} (h : cellAt S m = some (.lst ds)) : der S (.ref m) = .lst ds := by
  show (match cellAt S m with
    | some (.lst ds) => D.lst ds
    | _ => .ref m) = _
  rw [h]
theorem put_at {S : Sto} {n : Nat} {c : Addr} {nm : List Str} {ws : List W} (h : cellAt S n = some (.ins c nm ws)) (f : Str) (w : W) : putFld S n f w = S.set n (.ins c (putN f nm) (putW f w nm ws)) := by
  unfold putFld
  rw [h]
theorem fld_at {S : Sto} {n : Nat} {c : Addr} {nm : List Str} {ws : List W} (h : cellAt S n = some (.ins c nm ws)) {f : Str} {w : W} (hw : lookW nm ws f = some w) : fldOf S n c f = some w := by
  unfold fldOf
  rw [h]
  exact (if_pos rfl).trans hw
theorem RoadAt.app {c : Addr} {n : Nat} {ways : List D} {p : Int} {ws : List D} {S : Sto} (h : RoadAt c n ways p ws S) (t : Sto) : RoadAt c n ways p ws (S ++ t) := by
  obtain ⟨a, b, hab, h1, h2, h3⟩ := h
  exact ⟨a, b, hab, cell_app t h1, cell_app t h2, cell_app t h3⟩
theorem f3_ways (a b c : W) : lookW F3 [a, b, c] ("ways" : Str) = some a := rfl
theorem f3_place (a b c : W) : lookW F3 [a, b, c] ("place" : Str) = some b := rfl
theorem f3_waiting (a b c : W) : lookW F3 [a, b, c] ("waiting" : Str) = some c := rfl
theorem put_place (a b c d : W) : O.ins x (putN ("place" : Str) F3) (putW ("place" : Str) d F3 [a, b, c]) = .ins x F3 [a, d, c] := rfl
theorem put_waiting (a b c d : W) : O.ins x (putN ("waiting" : Str) F3) (putW ("waiting" : Str) d F3 [a, b, c]) = .ins x F3 [a, b, d] := rfl
/-! ### comprehensions that leave the store alone -/
theorem compL_any {dg : DG} {t : DT} {te : DE} {Γ : Gm} {S : Sto} {Q : List D → Sto → Prop} (p : D → Bool) (f : D → D) : ∀ (xs : List D) (acc : List D),
    (∀ x ∈ xs, ∃ Γ1, (∀ R : Gm → Prop, R Γ1 → dg x Γ R) ∧ (∀ Q : Bool → Sto → Prop, Q (p x) S → t Γ1 S Q) ∧ (p x = true → ∀ Q : D → Sto → Prop, Q (f x) S → te Γ1 S Q)) → sz (acc.length + xs.length) → Q (acc ++ (xs.filter p).map f) S → compL dg t te xs Γ acc S Q
  | [], acc, _, _, q => by
    rw [List.filter_nil, List.map_nil, List.append_nil] at q
    exact q
  | x :: xs, acc, h, hs, q => by
    obtain ⟨Γ1, h1, h2, h3⟩ := h x (.head _)
    have hr := fun y (m : y ∈ xs) => h y (.tail _ m)
    rw [List.length_cons] at hs
    have hs : acc.length + (xs.length + 1) ≤ 100000 := hs
    refine h1 _ (h2 _ (br (fun z => ?_) fun z => ?_))
    · refine h3 z _ ⟨(show _ ≤ 100000 by omega), compL_any p f xs _ hr (show _ ≤ 100000 by rw [List.length_append]; show _ + 1 + _ ≤ _; omega) ?_⟩
      rw [List.filter_cons_of_pos z, List.map_cons] at q
      rw [List.append_assoc]
      exact q
    · refine compL_any p f xs _ hr (show _ ≤ 100000 by omega) ?_
      rw [List.filter_cons_of_neg (by rw [z]; exact Bool.false_ne_true)] at q
      exact q
theorem compLC_any {C : Sto → Prop} {dg : DG} {t : DT} {te : DE} {Γ : Gm} {S : Sto} {Q : List D → Sto → Prop} (hC : C S) (p : D → Bool) (f : D → D) : ∀ (xs : List D) (acc : List D),
    (∀ x ∈ xs, ∃ Γ1, (∀ R : Gm → Prop, R Γ1 → dg x Γ R) ∧ (∀ Q : Bool → Sto → Prop, Q (p x) S → t Γ1 S Q) ∧ (p x = true → ∀ Q : D → Sto → Prop, Q (f x) S → te Γ1 S Q)) → sz (acc.length + xs.length) → Q (acc ++ (xs.filter p).map f) S → compLC C dg t te xs Γ acc S Q
  | [], acc, _, _, q => by
    rw [List.filter_nil, List.map_nil, List.append_nil] at q
    exact ⟨hC, q⟩
  | x :: xs, acc, h, hs, q => by
    obtain ⟨Γ1, h1, h2, h3⟩ := h x (.head _)
    have hr := fun y (m : y ∈ xs) => h y (.tail _ m)
    rw [List.length_cons] at hs
    have hs : acc.length + (xs.length + 1) ≤ 100000 := hs
    refine ⟨hC, h1 _ (h2 _ (br (fun z => ?_) fun z => ?_))⟩
    · refine h3 z _ ⟨(show _ ≤ 100000 by omega), compLC_any hC p f xs _ hr (show _ ≤ 100000 by rw [List.length_append]; show _ + 1 + _ ≤ _; omega) ?_⟩
      rw [List.filter_cons_of_pos z, List.map_cons] at q
      rw [List.append_assoc]
      exact q
    · refine compLC_any hC p f xs _ hr (show _ ≤ 100000 by omega) ?_
      rw [List.filter_cons_of_neg (by rw [z]; exact Bool.false_ne_true)] at q
      exact q
theorem filter_yes {α : Type} (l : List α) : l.filter (fun _ => true) = l := List.filter_eq_self.mpr fun _ _ => rfl
/-! ### the program's -/
theorem pure_p_is_among : ∀ {ds : List D}, g_p_is_among ds S P EP → t_p_is_among K c_BadTurn c_Road c_BadName c_BadRecord c_BadZone c_BadChange c_BadLine c_BadRow c_BadLetter c_HouseError (EE EP) (DDs P) (startG 3 ds) S := fun {ds} h => by
  unfold g_p_is_among at h
  split at h
  · rename_i x a b
    obtain ⟨hx, h⟩ := h
    cases x with
    | int i =>
      refine ⟨true, rfl, br_t ⟨false, rfl, br_t (br (fun z => ?_) fun z => ?_)⟩⟩
      · have h : P (.d (.bl (decide (a ≤ i) && decide (i ≤ b)))) S := h
        rw [show decide (a ≤ i) = true from z, Bool.true_and] at h
        exact h
      · have h : P (.d (.bl (decide (a ≤ i) && decide (i ≤ b)))) S := h
        rw [show decide (a ≤ i) = false from z, Bool.false_and] at h
        exact h
    | bl k => exact ⟨true, rfl, br_t ⟨true, rfl, br_f h⟩⟩
    | ref _ => cases hx
    | exc _ => cases hx
    | val _ => cases hx
    | _ => exact ⟨false, rfl, br_f h⟩
  · exact h.elim
theorem pure_p_need_turn : ∀ {ds : List D}, g_p_need_turn ds S P EP → t_p_need_turn K c_BadTurn c_Road c_BadName c_BadRecord c_BadZone c_BadChange c_BadLine c_BadRow c_BadLetter c_HouseError (EE EP) (DDs P) (startG 1 ds) S := fun {ds} h => by
  unfold g_p_need_turn at h
  split at h
  · rename_i t
    obtain ⟨h0, h⟩ := h
    refine ⟨true, rfl, br_f ⟨false, rfl, br_f ?_⟩⟩
    show (decide (t < 0) = true → _) ∧ (decide (t < 0) = false → _)
    rw [decide_eq_false (by omega)]
    exact br_f h
  · exact h.elim
end
end DL.K21
namespace DL.K21
open PySem PySem.Spec PyProof.Rows L2
section
variable {K : PySem.W.Frag} {c_BadTurn c_Road c_BadName c_BadRecord c_BadZone c_BadChange c_BadLine c_BadRow c_BadLetter c_HouseError : Addr} {S : Sto} {P : W → Sto → Prop} {EP : Value → Sto → Prop}
theorem nb {b : Bool} (h : (!b) = true) : b = false := by cases b <;> first | rfl | cases h
theorem nt {b : Bool} (h : (!b) = false) : b = true := by cases b <;> first | rfl | cases h
theorem atI_mem {α : Type} {xs : List α} {i : Int} {x : α} (h : atI xs i = some x) : x ∈ xs := by
  unfold atI at h
  obtain ⟨j, _, h⟩ := Option.bind_eq_some_iff.mp h
  exact List.mem_of_getElem? h
/-! ### readings whose operand is a list in a cell -/
theorem op_der {f : D → D → (D → Prop) → Prop} {ta tb : DE} {Γ : Gm} {S : Sto} {Q : D → Sto → Prop} {x y dx dy : D} (ha : ∀ R : D → Sto → Prop, R x S → ta Γ S R) (hb : ∀ R : D → Sto → Prop, R y S → tb Γ S R) (ex : der S x = dx) (ey : der S y = dy) (q : f dx dy fun z => Q z S) : dOp f ta tb Γ S Q :=
  ha _ (hb _ (by rw [ex, ey]; exact q))
theorem call_der {f : List D → (D → Prop) → Prop} {ta : DE} {Γ : Gm} {S : Sto} {Q : D → Sto → Prop} {x dx : D} (ha : ∀ R : D → Sto → Prop, R x S → ta Γ S R) (ex : der S x = dx) (q : f [dx] fun z => Q z S) : dCall f (dCons ta dNil) Γ S Q :=
  ha _ (show f [der S x] _ by rw [ex]; exact q)
theorem call_der2 {f : List D → (D → Prop) → Prop} {ta : DE} {v : D} {Γ : Gm} {S : Sto} {Q : D → Sto → Prop} {x dx dv : D} (ha : ∀ R : D → Sto → Prop, R x S → ta Γ S R) (ex : der S x = dx) (ev : der S v = dv) (q : f [dx, dv] fun z => Q z S) : dCall f (dCons ta (dCons (dC v) dNil)) Γ S Q :=
  ha _ (show f [der S x, der S v] _ by rw [ex, ev]; exact q)
theorem callF_der {f : List D → (List D → Prop) → Prop} {ta : DE} {Γ : Gm} {S : Sto} {Q : List D → Sto → Prop} {x dx : D} (ha : ∀ R : D → Sto → Prop, R x S → ta Γ S R) (ex : der S x = dx) (q : f [dx] fun z => Q z S) : dCallF f (dCons ta dNil) Γ S Q :=
  ha _ (show f [der S x] _ by rw [ex]; exact q)
theorem fld_ok {c : Addr} {f : Str} {te : DE} {Γ : Gm} {S : Sto} {n : Nat} {y : D} (ht : ∀ R : D → Sto → Prop, R (.ref n) S → te Γ S R) (h : fldOf S n c f = some (.d y)) : ∀ R : D → Sto → Prop, R y S → dFld c f te Γ S R := fun R r => ht _ ⟨y, h, r⟩
theorem okDs_all {ds : List D} (h : okD (.lst ds) = true) : ∀ d ∈ ds, okD d = true := fun d m => okDs_mem (show okDs ds = true from h) m
theorem bls {p : D → Bool} (ds : List D) : boolsOf (ds.map fun d => .bl (p d)) = some (ds.map p) := by
  rw [← boolsOf_map, List.map_map]
  rfl
theorem allmap {p : D → Bool} (ds : List D) : (ds.map p).all id = ds.all p := by
  rw [List.all_map]
  rfl
theorem sapp (S0 : Sto) (x y : O) : S0 ++ [x] ++ [y] = S0 ++ [x, y] := by rw [List.append_assoc]; rfl
theorem sapp2 (S0 : Sto) (x y z : O) : S0 ++ [x, y] ++ [z] = S0 ++ [x, y, z] := by rw [List.append_assoc]; rfl
theorem set_at : ∀ (S0 : Sto) (x y : O) (t : Sto), (S0 ++ x :: t).set S0.length y = S0 ++ y :: t
  | [], _, _, _ => rfl
  | z :: S0, x, y, t => congrArg (z :: ·) (set_at S0 x y t)
theorem put_new (S0 : Sto) (c : Addr) (nm : List Str) (ws : List W) (t : Sto) (f : Str) (w : W) : putFld (S0 ++ .ins c nm ws :: t) S0.length f w = S0 ++ .ins c (putN f nm) (putW f w nm ws) :: t := by
  rw [put_at (cell_new S0 _ t), set_at]
theorem pure_p_Road_init : ∀ {ds : List D}, g_p_Road_init c_Road c_BadTurn ds S P EP → t_p_Road_init K c_BadTurn c_Road c_BadName c_BadRecord c_BadZone c_BadChange c_BadLine c_BadRow c_BadLetter c_HouseError (EE EP) (DDs P) (startG 3 ds) S := fun {ds} h => by
  unfold g_p_Road_init at h
  split at h
  · rename_i n row
    obtain ⟨S0, rfl, rfl, hok, hsz, hy, hn⟩ := h
    have bad : rowOk (der (S0 ++ [.ins c_Road [] []]) row) = false → EP (.ref c_BadTurn) (S0 ++ [.ins c_Road [] []]) := hn
    generalize e : der (S0 ++ [.ins c_Road [] []]) row = r at hok hsz hy bad
    cases r with
    | lst ws =>
      unfold t_p_Road_init dSeq dIfS dTOr dTNot dT dNext dFldSet dBox
      refine call_der2 (dv := .val (.ty "list")) ?ha1 e ?ev1 ?q1
      case ha1 => exact fun R r => r
      case ev1 => rfl
      refine ⟨true, rfl, br_f ?_⟩
      have hs : ws.length ≤ 100000 := hsz _ rfl
      try dsimp only
      refine op_der (x := .int ws.length) (y := .int 200) (dx := .int ws.length) (dy := .int 200) ?ha2 ?hb2 ?hx2 ?hy2 ?q2
      case ha2 => exact fun R r => call_der (f := fLen) (ta := dVar 1) (Γ := startG 3 [.ref S0.length, row]) (fun R r => r) e r
      case hb2 => exact fun R r => r
      case hx2 => rfl
      case hy2 => rfl
      refine br (fun z => ?_) fun z => ?_
      · refine bad ?_
        show (decide (ws.length ≤ 200) && _) = false
        have z : decide ((ws.length : Int) > 200) = true := z
        rw [decide_eq_false (by have := of_decide_eq_true z; omega), Bool.false_and]
      · have z : decide ((ws.length : Int) > 200) = false := z
        have hl : ws.length ≤ 200 := by have := of_decide_eq_false z; omega
        try dsimp only
        refine call_der (x := .lst (ws.map fun d => .bl (amongD d 0 19))) (dx := .lst (ws.map fun d => .bl (amongD d 0 19))) ?ha3 ?hx3 ?q3
        case ha3 =>
          intro R r
          refine ⟨⟨_, e⟩, _, e, compLC_any e (fun _ => true) (fun d => .bl (amongD d 0 19)) ws [] (fun d m => ⟨_, fun R r => r, fun Q q => q, fun _ Q q => ⟨okDs_all hok d m, q⟩⟩) (show 0 + _ ≤ _ by omega) ?_⟩
          rw [filter_yes, List.nil_append]
          exact r
        case hx3 => rfl
        refine ⟨_, bls ws, ?_⟩
        rw [allmap]
        refine br (fun y => ?_) fun y => ?_
        · refine bad ?_
          have y := nb y
          show (_ && ws.all fun d => amongD d 0 19) = false
          rw [y, Bool.and_false]
        · have y := nt y
          have hg : rowOk (.lst ws) = true := by
            show (decide (ws.length ≤ 200) && ws.all fun d => amongD d 0 19) = true
            rw [decide_eq_true hl, y]
            rfl
          have hy := hy ws rfl hg
          try dsimp only
          refine callF_der ?ha4 e ?q4
          case ha4 => exact fun R r => r
          refine ⟨⟨_, _, (by rw [sapp]; exact cell_new S0 _ _), (by decide)⟩, ?_⟩
          rw [sapp, put_new, List.length_append]
          refine ⟨⟨_, _, cell_new S0 _ _, (by decide)⟩, ?_⟩
          rw [put_new]
          refine ⟨Nat.zero_le _, ⟨_, _, (by rw [sapp2]; exact cell_new S0 _ _), (by decide)⟩, ?_⟩
          rw [sapp2, put_new, List.length_append]
          exact hy
    | ref _ => cases hok
    | exc _ => cases hok
    | val _ => cases hok
    | _ =>
      unfold t_p_Road_init dSeq dIfS dTOr dTNot dT dNext dFldSet dBox
      refine call_der2 (dv := .val (.ty "list")) (by exact fun R r => r) e (by rfl) ?_
      exact ⟨false, rfl, br_t (br_t (bad rfl))⟩
  · exact h.elim
theorem ck_nil : cmpOk (.lst []) := (cn_lst (n := 0) (fun _ m => by cases m)).ck
theorem ck_ways {ways : List D} (h : ∀ d ∈ ways, WayOk d) : cmpOk (.lst ways) := (cn_lst (n := 0) fun d m => by
  obtain ⟨i, rfl, _⟩ := h d m
  exact cn_int 0 i).ck
theorem eq_nilL (ds : List D) : eqD (.lst ds) (.lst []) = ds.isEmpty := by cases ds <;> rfl
theorem nextP_ok {ways : List D} {p : Int} (h : RoadOk ways p) : RoadOk ways (nextP ways p) := by
  refine ⟨h.1, h.2.1, fun hne => ?_⟩
  have h0 := h.2.2 hne
  unfold nextP
  rw [if_neg (by rw [List.isEmpty_iff]; exact hne)]
  exact ⟨Int.emod_nonneg _ (by omega), Int.emod_lt_of_pos _ (by omega)⟩
theorem way_rng {ways : List D} {p : Int} (h : ∀ d ∈ ways, WayOk d) : 0 ≤ wayI ways p ∧ wayI ways p ≤ 19 := by
  unfold wayI
  split
  · rename_i i e
    have m : D.int i ∈ ways := atI_mem e
    obtain ⟨j, ej, h0, h1⟩ := h _ m
    cases ej
    exact ⟨h0, h1⟩
  · decide
theorem way_nil (p : Int) : wayI [] p = 0 := by
  have e : atI ([] : List D) p = none := by
    unfold atI
    cases ixN ([] : List D).length p <;> rfl
  unfold wayI
  rw [e]
theorem pure_p_Road_next_way : ∀ {ds : List D}, g_p_Road_next_way c_Road ds S P EP → t_p_Road_next_way K c_BadTurn c_Road c_BadName c_BadRecord c_BadZone c_BadChange c_BadLine c_BadRow c_BadLetter c_HouseError (EE EP) (DDs P) (startG 2 ds) S := fun {ds} h => by
  unfold g_p_Road_next_way at h
  split at h
  · rename_i n
    obtain ⟨ways, p, ws, ⟨a, b, hab, h1, h2, h3⟩, hk, h⟩ := h
    have fw := fld_at h1 (f3_ways _ _ _)
    have fp := fld_at h1 (f3_place _ _ _)
    have dw := der_lst h2
    unfold t_p_Road_next_way dSeq dIfS dT dNext dSet dFldSet dRet
    try dsimp only
    refine op_der (x := .ref a) (y := .lst []) (dy := .lst []) ?ha5 ?hb5 dw ?hy5 ?q5
    case ha5 => exact fld_ok (fun R r => r) fw
    case hb5 => exact fun R r => ⟨Nat.zero_le _, r⟩
    case hy5 => rfl
    refine ⟨ck_ways hk.1, ck_nil, br (fun z => ?_) fun z => ?_⟩
    · have z : ways.isEmpty = true := by rw [← eq_nilL]; exact z
      have e : ways = [] := List.isEmpty_iff.mp z
      subst e
      have h := h S ⟨a, b, hab, h1, h2, h3⟩
      rw [way_nil] at h
      exact h
    · have z : ways.isEmpty = false := by rw [← eq_nilL]; exact z
      have hne : ways ≠ [] := fun e => by subst e; cases z
      obtain ⟨p0, p1⟩ := hk.2.2 hne
      obtain ⟨d, ed, md, _⟩ := at_ex (xs := ways) p0 p1
      obtain ⟨i, rfl, _⟩ := hk.1 d md
      try dsimp only
      refine op_der (x := .ref a) (y := .int p) (dy := .int p) ?ha6 ?hb6 dw ?hy6 ?q6
      case ha6 => exact fld_ok (fun R r => r) fw
      case hb6 => exact fld_ok (fun R r => r) fp
      case hy6 => rfl
      refine ⟨_, ed, ?_⟩
      have hw : wayI ways p = i := by unfold wayI; rw [ed]
      have hl := hk.2.1
      try dsimp only
      refine op_der (x := .int (p + 1)) (y := .int ways.length) (dx := .int (p + 1)) (dy := .int ways.length) ?ha7 ?hb7 ?hx7 ?hy7 ?q7
      case ha7 => exact fun R r => op_der (f := fAdd) (fld_ok (fun R r => r) fp) (fun R r => r) rfl rfl r
      case hb7 => exact fun R r => call_der (f := fLen) (fld_ok (fun R r => r) fw) dw r
      case hx7 => rfl
      case hy7 => rfl
      refine ⟨(show (0 : Int) < (ways.length : Int) by omega), ⟨_, _, h1, (by decide)⟩, ?_⟩
      have h := h (putFld S n ("place" : Str) (.d (.int ((p + 1) % (ways.length : Int))))) (by
        rw [put_at h1, put_place]
        have hn : nextP ways p = (p + 1) % (ways.length : Int) := by unfold nextP; rw [if_neg (by rw [z]; exact Bool.false_ne_true)]
        rw [hn]
        have ha : n ≠ a := fun e => by subst e; rw [h1] at h2; cases h2
        have hb : n ≠ b := fun e => by subst e; rw [h1] at h3; cases h3
        exact ⟨a, b, hab, cell_set _ h1, (cell_ne _ ha).trans h2, (cell_ne _ hb).trans h3⟩)
      rw [hw] at h
      exact h
  · exact h.elim
theorem pure_p_Road_many : ∀ {ds : List D}, g_p_Road_many c_Road ds S P EP → t_p_Road_many K c_BadTurn c_Road c_BadName c_BadRecord c_BadZone c_BadChange c_BadLine c_BadRow c_BadLetter c_HouseError (EE EP) (DDs P) (startG 1 ds) S := fun {ds} h => by
  unfold g_p_Road_many at h
  split at h
  · rename_i n
    obtain ⟨ways, p, ws, ⟨a, b, hab, h1, h2, h3⟩, h⟩ := h
    unfold t_p_Road_many dRet
    refine call_der (x := .ref b) ?ha8 (der_lst h3) ?q8
    case ha8 => exact fld_ok (fun R r => r) (fld_at h1 (f3_waiting _ _ _))
    exact h
  · exact h.elim
theorem road_add {c : Addr} {n : Nat} {ways : List D} {p : Int} {ws : List D} {S : Sto} (h : RoadAt c n ways p ws S) : ∃ b, fldOf S n c ("waiting" : Str) = some (.d (.ref b)) ∧ cellAt S b = some (.lst ws) ∧ ∀ ws', RoadAt c n ways p ws' (S.set b (.lst ws')) := by
  obtain ⟨a, b, hab, h1, h2, h3⟩ := h
  have hb : b ≠ n := fun e => by subst e; rw [h1] at h3; cases h3
  exact ⟨b, fld_at h1 (f3_waiting _ _ _), h3, fun ws' => ⟨a, b, hab, (cell_ne _ hb).trans h1, (cell_ne _ fun e => hab e.symm).trans h2, cell_set _ h3⟩⟩
theorem road_obj {c : Addr} {n : Nat} {ways : List D} {p : Int} {ws : List D} {S : Sto} (h : RoadAt c n ways p ws S) {m : Str} (hm : ∀ a b c, lookW F3 [a, b, c] m = none) : isObj S c m (.ref n) := by
  obtain ⟨a, b, hab, h1, h2, h3⟩ := h
  exact ⟨n, _, _, rfl, h1, hm _ _ _⟩
/-- a thing goes to the end of the waiting ones -/
theorem road_app {c : Addr} {n : Nat} {ways : List D} {p : Int} {ws : List D} {S : Sto} (h : RoadAt c n ways p ws S) {te : DE} {Γ : Gm} {DD : DEnds} (hs : slotAt Γ 0 = some (.d (.ref n))) (y : D) (ht : ∀ Q : D → Sto → Prop, Q y S → te Γ S Q) (hl : ws.length ≤ 99000)
    (q : ∀ S', RoadAt c n ways p (ws ++ [y]) S' → DD.nx Γ S') : dAppC (dFld c ("waiting" : Str) (dVar 0)) te DD Γ S := by
  obtain ⟨b, f, hb, hh⟩ := road_add h
  unfold dAppC dFld dVar
  rw [hs]
  exact ⟨_, f, ⟨_, _, rfl, hb⟩, ht _ ⟨_, _, rfl, hb, (show _ ≤ 100000 by omega), q _ (hh _)⟩⟩
theorem pure_p_Road_send : ∀ {ds : List D}, g_p_Road_send c_Road ds S P EP → t_p_Road_send K c_BadTurn c_Road c_BadName c_BadRecord c_BadZone c_BadChange c_BadLine c_BadRow c_BadLetter c_HouseError (EE EP) (DDs P) (startG 4 ds) S := fun {ds} h => by
  unfold g_p_Road_send at h
  split at h
  · rename_i n x t
    obtain ⟨ways, p, ws, hR, hk, h0, hl, h⟩ := h
    refine ⟨h0, road_obj hR (fun _ _ _ => rfl), ways, p, ws, hR, hk, fun S1 hR1 => ?_⟩
    have h : ∀ S', RoadAt c_Road n ways (nextP ways p) (sentW ws (wayI ways p) x t) S' → P (.d .non) S' := h
    generalize wayI ways p = w at h
    refine br (fun z => ?_) fun z => br (fun y => ?_) fun y => ?_
    · have z : w < 10 := of_decide_eq_true z
      refine road_app hR1 rfl (.tup [.int (t + 1 + w), x]) (fun Q q => ⟨(by decide : (2 : Nat) ≤ 100000), q⟩) (by omega) fun S2 hR2 => h S2 ?_
      unfold sentW
      rw [if_neg (by omega), if_pos z]
      exact hR2
    · have z : ¬ w < 10 := of_decide_eq_false z
      have y : w > 10 := of_decide_eq_true y
      refine road_app hR1 rfl (.tup [.int (t + 1), x]) (fun Q q => ⟨(by decide : (2 : Nat) ≤ 100000), q⟩) (by omega) fun S2 hR2 => ?_
      refine road_app (te := dTup (dCons (dOp fSub (dOp fAdd (dOp fAdd (dVar 2) (dC (.int 1))) (dVar 3)) (dC (.int 10))) (dCons (dVar 1) dNil))) (DD := DDs P) (Γ := [some (.d (.ref n)), some (.d x), some (.d (.int t)), some (.d (.int w))]) hR2 rfl (.tup [.int (t + 1 + w - 10), x]) (fun Q q => ⟨(by decide : (2 : Nat) ≤ 100000), q⟩) (by rw [List.length_append]; show _ + 1 ≤ _; omega) fun S3 hR3 => h S3 ?_
      unfold sentW
      rw [if_neg (by omega), if_neg z]
      rw [List.append_assoc] at hR3
      exact hR3
    · have z : ¬ w < 10 := of_decide_eq_false z
      have y : ¬ w > 10 := of_decide_eq_false y
      refine h S1 ?_
      unfold sentW
      rw [if_pos (by omega)]
      exact hR1
  · exact h.elim
theorem rest_of (i : Int) (x : D) : whenD (.tup [.int i, x]) = i := rfl
theorem pure_p_Road_due : ∀ {ds : List D}, g_p_Road_due c_Road ds S P EP → t_p_Road_due K c_BadTurn c_Road c_BadName c_BadRecord c_BadZone c_BadChange c_BadLine c_BadRow c_BadLetter c_HouseError (EE EP) (DDs P) (startG 6 ds) S := fun {ds} h => by
  unfold g_p_Road_due at h
  split at h
  · rename_i n t
    obtain ⟨ways, p, ws, ⟨a, b, hab, h1, h2, h3⟩, hp, h0, hl, h⟩ := h
    have fw := fld_at h1 (f3_waiting _ _ _)
    have dw := der_lst h3
    refine ⟨h0, _, fw, ⟨_, dw⟩, _, dw, compLC_any dw (fun d => eqD (.int (whenD d)) (.int t)) letD ws [] (fun d m => ?_) (show 0 + _ ≤ _ by omega) ?_⟩
    · obtain ⟨i, x, rfl, hx⟩ := hp d m
      exact ⟨_, fun R r => ⟨rfl, r⟩, fun Q q => ⟨ck_int _, ck_int _, q⟩, fun _ Q q => q⟩
    refine ⟨_, fw, ⟨_, dw⟩, _, dw, compLC_any dw (fun d => !eqD (.int (whenD d)) (.int t)) (fun d => d) ws [] (fun d m => ?_) (show 0 + _ ≤ _ by omega) ?_⟩
    · obtain ⟨i, x, rfl, hx⟩ := hp d m
      exact ⟨_, fun R r => r, fun Q q => ⟨_, rfl, ck_int _, ck_int _, q⟩, fun _ Q q => q⟩
    rw [List.map_id', List.nil_append]
    refine ⟨⟨_, _, cell_app _ h1, (by decide)⟩, ?_⟩
    refine h _ ?_
    rw [put_at (cell_app _ h1), put_waiting]
    have ha : n ≠ a := fun e => by subst e; rw [h1] at h2; cases h2
    have hb : n ≠ S.length := Nat.ne_of_lt (cell_lt h1)
    have haS : a ≠ S.length := Nat.ne_of_lt (cell_lt h2)
    exact ⟨a, S.length, haS, cell_set _ (cell_app _ h1), (cell_ne _ ha).trans (cell_app _ h2), (cell_ne _ hb).trans (cell_new S _ [])⟩
  · exact h.elim
end
end DL.K21
namespace DL.K21
open PySem PySem.Spec PyProof.Rows L2
section
variable {K : PySem.W.Frag} {c_BadTurn c_Road c_BadName c_BadRecord c_BadZone c_BadChange c_BadLine c_BadRow c_BadLetter c_HouseError : Addr} {S : Sto} {P : W → Sto → Prop} {EP : Value → Sto → Prop}
theorem mod_rng (x : Int) {m : Int} (h : 0 < m) : 0 ≤ x % m ∧ x % m < m := ⟨Int.emod_nonneg _ (by omega), Int.emod_lt_of_pos _ h⟩
theorem pure_draw : ∀ {ds : List D}, g_draw ds S P EP → t_draw K c_BadTurn c_Road c_BadName c_BadRecord c_BadZone c_BadChange c_BadLine c_BadRow c_BadLetter c_HouseError (EE EP) (DDs P) (startG 2 ds) S := fun {ds} h => by
  unfold g_draw at h
  split at h
  · rename_i cs k
    obtain ⟨⟨hc, h0⟩, h⟩ := h
    refine br (fun z => ?_) fun z => ?_
    · have z : decide ((cs.length : Int) > k) = true := z
      obtain ⟨d, e, m, _⟩ := at_ex (xs := cs) h0 (by have := of_decide_eq_true z; omega)
      obtain ⟨i, rfl⟩ := hc d m
      exact ⟨_, e, h i⟩
    · exact h 0
  · exact h.elim
theorem pure_spread : ∀ {ds : List D}, g_spread ds S P EP → t_spread K c_BadTurn c_Road c_BadName c_BadRecord c_BadZone c_BadChange c_BadLine c_BadRow c_BadLetter c_HouseError (EE EP) (DDs P) (startG 2 ds) S := fun {ds} h => by
  unfold g_spread at h
  split at h
  · rename_i c k
    obtain ⟨⟨k0, k1⟩, h⟩ := h
    have e1 : (2 * k * k : Int) ≤ 2 * 1000 * 1000 := by
      have : 2 * k * k ≤ 2 * 1000 * k := Int.mul_le_mul_of_nonneg_right (by omega) k0
      omega
    have e0 : (0 : Int) ≤ 2 * k * k := Int.mul_nonneg (by omega) k0
    refine ⟨cmul_l (by decide) (by decide), cmul_r (by omega) (by omega), cmul_r (by omega) (by omega), (by decide : (0 : Int) < 2147483647), ?_⟩
    exact h _ (mod_rng _ (by decide)).1 (mod_rng _ (by decide)).2
  · exact h.elim
structure KF (K : PySem.W.Frag) (c_BadTurn c_Road c_BadName c_BadRecord c_BadZone c_BadChange c_BadLine c_BadRow c_BadLetter c_HouseError : Addr) : Prop where
  k8 : PySem.W.kitOne K (.ref c_BadTurn) (.type "ValueError") = some true
  k9 : PySem.W.kitOne K (.ref c_BadTurn) (.ref c_BadTurn) = some true
  ex : PySem.W.exmOne K (.ref c_BadTurn) (.ref c_HouseError) = some true
  ec : ExcC K c_BadTurn
  q1 : PySem.W.kitOne K (.ref c_BadTurn) (.ref c_BadName) = some false
  q2 : PySem.W.kitOne K (.ref c_BadTurn) (.ref c_BadRecord) = some false
  q3 : PySem.W.kitOne K (.ref c_BadTurn) (.ref c_BadZone) = some false
  q4 : PySem.W.kitOne K (.ref c_BadTurn) (.ref c_BadChange) = some false
  q5 : PySem.W.kitOne K (.ref c_BadTurn) (.ref c_BadLetter) = some false
  q6 : PySem.W.kitOne K (.ref c_BadTurn) (.ref c_BadRow) = some false
  q7 : PySem.W.kitOne K (.ref c_BadTurn) (.ref c_BadLine) = some false
theorem isi_1 {v : Value} {c : V} {b : Bool} (h : PySem.W.kitOne K v (clsU c) = some b) : isiOne K (.exc v) c = some b := by cases c <;> exact h
theorem isi_n {v : Value} {c : V} {cs : List D} (h : PySem.W.kitOne K v (clsU c) = some false) (q : isiSome K (.exc v) cs = some false) : isiSome K (.exc v) (.val c :: cs) = some false := by
  rw [isiSome, isi_1 h]
  exact q
instance (n : Nat) : Decidable (sz n) := inferInstanceAs (Decidable (n ≤ 100000))
theorem pure_alone (F : KF K c_BadTurn c_Road c_BadName c_BadRecord c_BadZone c_BadChange c_BadLine c_BadRow c_BadLetter c_HouseError) : ∀ {ds : List D}, g_alone c_BadTurn ds S P EP → t_alone K c_BadTurn c_Road c_BadName c_BadRecord c_BadZone c_BadChange c_BadLine c_BadRow c_BadLetter c_HouseError (EE EP) (DDs P) (startG 3 ds) S := fun {ds} h => by
  unfold g_alone at h
  split at h
  · rename_i x s
    obtain ⟨rfl, rfl, h⟩ := h
    refine br_f ⟨true, isi_1 F.k8, br_f ?_⟩
    refine ⟨false, isi_1 F.q1, (by decide), false, isi_1 F.q2, (by decide), (by decide), ?_⟩
    refine ⟨true, isi_1 F.k9, (by decide), (by decide), false, isi_1 F.q3, (by decide), (by decide), ?_⟩
    refine ⟨false, isi_1 F.q4, (by decide), (by decide), ?_⟩
    refine ⟨(by decide : (3 : Nat) ≤ 100000), ⟨(fun z => nomatch z), rfl⟩, false, isi_n F.q5 (isi_n F.q6 (isi_n F.q7 rfl)), (by decide), (by decide), ck_str _, ck_str _, ?_⟩
    exact h
  · exact h.elim
theorem way_in (d : Int) {w : Int} (h0 : 0 ≤ w) (h1 : w < 5) {x : D} (hx : x ∈ [D.int 0, .int 10]) {y : D} (hy : y ∈ [D.int 0, .int 0, .int 0, .int 3, .int 11, .int 19]) :
    ∃ z, atI [D.int (d % 20), .int (d % 10), x, .int (10 + d % 10), y] w = some z ∧ WayOk z := by
  obtain ⟨z, e, m, _⟩ := at_ex (xs := [D.int (d % 20), .int (d % 10), x, .int (10 + d % 10), y]) h0 h1
  refine ⟨z, e, ?_⟩
  have a := mod_rng d (m := 20) (by decide)
  have b := mod_rng d (m := 10) (by decide)
  simp only [List.mem_cons, List.not_mem_nil, or_false] at m hx hy
  rcases m with rfl | rfl | rfl | rfl | rfl
  · exact ⟨_, rfl, by omega, by omega⟩
  · exact ⟨_, rfl, by omega, by omega⟩
  · rcases hx with rfl | rfl <;> exact ⟨_, rfl, by decide, by decide⟩
  · exact ⟨_, rfl, by omega, by omega⟩
  · rcases hy with rfl | rfl | rfl | rfl | rfl | rfl <;> exact ⟨_, rfl, by decide, by decide⟩
theorem ints_lt : ∀ {n : Nat} {lo x : Int} {r : List D}, D.int x :: r = (intsFrom lo n) → True := fun _ => trivial
theorem pure_row : ∀ {ds : List D}, g_row ds S P EP → t_row K c_BadTurn c_Road c_BadName c_BadRecord c_BadZone c_BadChange c_BadLine c_BadRow c_BadLetter c_HouseError (EE EP) (DDs P) (startG 6 ds) S := fun {ds} h => by
  unfold g_row at h
  split at h
  · rename_i cs
    obtain ⟨hc, h⟩ := h
    refine ⟨⟨hc, by decide⟩, fun i => ⟨⟨by decide, by decide⟩, fun c c0 c1 => ?_⟩⟩
    have hw := mod_rng c (m := 5) (by decide)
    have hn := mod_rng (c / 5) (m := 21) (by decide)
    refine ⟨(by decide : (0 : Int) < 5), Nat.zero_le _, cdiv, (by decide : (0 : Int) < 21), Int.le_trans (by decide) hn.1, Int.lt_trans hn.2 (by decide), ?_⟩
    refine forL_inv (fun r Γ S1 => S1 = S ∧ (∃ ways t4 t5, Γ = [some (.d (.lst cs)), some (.d (.int c)), some (.d (.int (c % 5))), some (.own ways), t4, t5] ∧ (∀ d ∈ ways, WayOk d) ∧ ways.length + r.length ≤ 20) ∧ ∀ x ∈ r, ∃ k : Int, x = .int k ∧ 0 ≤ k ∧ k ≤ 1000) ?_ ?_ (intsFrom 0 (c / 5 % 21).toNat) _ _ ⟨rfl, ⟨[], none, none, rfl, (fun d m => by cases m), ?_⟩, ?_⟩
    · rintro Γ S1 ⟨rfl, ⟨ways, t4, t5, rfl, hd, hl⟩, _⟩
      exact h ways hd (by have : ways.length + 0 ≤ 20 := hl; omega)
    · rintro x r Γ S1 nx hnx ⟨rfl, ⟨ways, t4, t5, rfl, hd, hl⟩, hr⟩
      obtain ⟨k, rfl, k0, k1⟩ := hr _ (.head _)
      have hm := mod_rng k (m := 2) (by decide)
      rw [List.length_cons] at hl
      refine ⟨(by decide : (0 : Int) < 2), ⟨hc, by omega⟩, fun j => ⟨⟨k0, k1⟩, fun d d0 d1 => ?_⟩⟩
      have m2 := mod_rng d (m := 2) (by decide)
      have m6 := mod_rng d (m := 6) (by decide)
      obtain ⟨x, ex, hx, _⟩ := at_ex (xs := [D.int 0, .int 10]) m2.1 m2.2
      obtain ⟨y, ey, hy, _⟩ := at_ex (xs := [D.int 0, .int 0, .int 0, .int 3, .int 11, .int 19]) m6.1 m6.2
      obtain ⟨z, ez, hz⟩ := way_in d hw.1 hw.2 hx hy
      refine ⟨(by decide : (0 : Int) < 20), (by decide : (0 : Int) < 10), (by decide : (2 : Nat) ≤ 100000), (by decide : (0 : Int) < 2), _, ex, (by decide : (0 : Int) < 10), (by decide : (6 : Nat) ≤ 100000), (by decide : (0 : Int) < 6), _, ey, (by decide : (5 : Nat) ≤ 100000), _, ez, (show _ ≤ 100000 by omega), ?_⟩
      refine hnx _ _ ⟨rfl, ⟨_, _, _, rfl, fun e m => ?_, by rw [List.length_append]; show _ + 1 + _ ≤ _; omega⟩, fun x m => hr x (.tail _ m)⟩
      rcases List.mem_append.mp m with m | m
      · exact hd e m
      · rw [List.mem_singleton.mp m]
        exact hz
    · rw [ints_len]
      show 0 + _ ≤ _
      omega
    · intro x m
      obtain ⟨k, rfl, k0, k1⟩ := ints_mem m
      exact ⟨k, rfl, by omega, by omega⟩
  · exact h.elim
theorem eq_int (a b : Int) : eqD (.int a) (.int b) = decide (a = b) := by
  show (a == b) = decide (a = b)
  by_cases h : a = b
  · subst h
    simp
  · rw [decide_eq_false h]
    exact beq_eq_false_iff_ne.mpr h
theorem eqD_int (a b : Int) : eqD (.int a) (.int b) = true ↔ a = b := by
  rw [eq_int]
  exact decide_eq_true_iff
theorem pure_sent : ∀ {ds : List D}, g_sent ds S P EP → t_sent K c_BadTurn c_Road c_BadName c_BadRecord c_BadZone c_BadChange c_BadLine c_BadRow c_BadLetter c_HouseError (EE EP) (DDs P) (startG 6 ds) S := fun {ds} h => by
  unfold g_sent at h
  split at h
  · rename_i ws ways n x t
    obtain ⟨⟨n0, hw, hl, hs⟩, h⟩ := h
    have go : ∀ w : Int, wayI ways (n % (ways.length : Int)) = w → (dSeq (dIfS (dT (dOp fEq (dVar 5) (dC (.int 10)))) (dRet (dVar 0)) (dNext))
  (dSeq (dIfS (dT (dOp fLtS (dVar 5) (dC (.int 10))))
  (dRet (dFz (dOpF fCat (dVar 0) (dFz (dLst (dCons (dTup (dCons (dOp fAdd (dOp fAdd (dVar 4) (dC (.int 1))) (dVar 5)) (dCons (dVar 3) (dNil)))) (dNil)))))))
  (dNext))
  (dRet (dFz (dOpF fCat (dVar 0) (dFz (dLst (dCons (dTup (dCons (dOp fAdd (dVar 4) (dC (.int 1))) (dCons (dVar 3) (dNil)))) (dCons (dTup (dCons (dOp fSub (dOp fAdd (dOp fAdd (dVar 4) (dC (.int 1))) (dVar 5)) (dC (.int 10))) (dCons (dVar 3) (dNil)))) (dNil)))))))))) (DDs P)
        [some (.d (.lst ws)), some (.d (.lst ways)), some (.d (.int n)), some (.d x), some (.d (.int t)), some (.d (.int w))] S := fun w e => by
      rw [e] at h
      unfold sentW at h
      refine ⟨ck_int _, ck_int _, br (fun z => ?_) fun z => br (fun y => ?_) fun y => ?_⟩
      · have z : w = 10 := (eqD_int _ _).mp z
        rw [if_pos z] at h
        exact h
      · have z : w ≠ 10 := fun q => by
          have := (eqD_int w 10).mpr q
          rw [show eqD (.int w) (.int 10) = false from z] at this
          cases this
        have y : w < 10 := of_decide_eq_true y
        rw [if_neg z, if_pos y] at h
        exact ⟨(by decide : (2 : Nat) ≤ 100000), (by decide : (1 : Nat) ≤ 100000), (show _ + 1 ≤ 100000 by omega), h⟩
      · have z : w ≠ 10 := fun q => by
          have := (eqD_int w 10).mpr q
          rw [show eqD (.int w) (.int 10) = false from z] at this
          cases this
        have y : ¬ w < 10 := of_decide_eq_false y
        rw [if_neg z, if_neg y] at h
        exact ⟨(by decide : (2 : Nat) ≤ 100000), (by decide : (2 : Nat) ≤ 100000), (by decide : (2 : Nat) ≤ 100000), (show _ + 2 ≤ 100000 by omega), h⟩
    refine ⟨Nat.zero_le _, ck_ways hw, ck_nil, br (fun z => ?_) fun z => ?_⟩
    · have z : ways.isEmpty = false := by
        have z := nb (show (!eqD (.lst ways) (.lst [])) = true from z)
        rw [eq_nilL] at z
        exact z
      have hne : 0 < ways.length := by
        cases ways with
        | nil => cases z
        | cons a b => exact Nat.succ_pos _
      have hm := mod_rng n (m := (ways.length : Int)) (by omega)
      obtain ⟨d, e, m, _⟩ := at_ex (xs := ways) hm.1 hm.2
      obtain ⟨i, rfl, _⟩ := hw d m
      exact ⟨(show (0 : Int) < (ways.length : Int) by omega), _, e, go i (by unfold wayI; rw [e])⟩
    · have z : ways = [] := by
        have z := nt (show (!eqD (.lst ways) (.lst [])) = false from z)
        rw [eq_nilL] at z
        exact List.isEmpty_iff.mp z
      exact go 0 (by rw [z]; exact way_nil _)
  · exact h.elim
theorem pure_refused (F : KF K c_BadTurn c_Road c_BadName c_BadRecord c_BadZone c_BadChange c_BadLine c_BadRow c_BadLetter c_HouseError) : ∀ {ds : List D}, g_refused c_Road ds S P EP → t_refused K c_BadTurn c_Road c_BadName c_BadRecord c_BadZone c_BadChange c_BadLine c_BadRow c_BadLetter c_HouseError (EE EP) (DDs P) (startG 3 ds) S := fun {ds} h => by
  unfold g_refused at h
  split at h
  · rename_i c
    have hm := mod_rng c (m := 9) (by decide)
    obtain ⟨d, e, m, _⟩ := at_ex (xs := [D.non, .tup [.int 0, .int 1], .str ("01" : Str), .lst [.int 20], .lst [.int (-1)], .lst [.bl true], .lst (List.replicate (201 : Int).toNat [D.int 0]).flatten, .lst [.str ("0" : Str)], .int 5]) hm.1 hm.2
    have bad : okD d = true ∧ (∀ ws, d = .lst ws → sz ws.length) ∧ rowOk d = false ∧ ∀ S', der S' d = d := by
      simp only [List.mem_cons, List.not_mem_nil, or_false] at m
      rcases m with rfl | rfl | rfl | rfl | rfl | rfl | rfl | rfl | rfl <;> refine ⟨by decide, fun ws z => ?_, by decide, fun _ => rfl⟩ <;> first | (cases z; done) | (cases z; show _ ≤ _; decide)
    obtain ⟨b1, b2, b3, b4⟩ := bad
    refine ⟨(by decide : (2 : Nat) ≤ 100000), (by decide : (1 : Nat) ≤ 100000), (by decide : (1 : Nat) ≤ 100000), (by decide : (1 : Nat) ≤ 100000), (by decide : (1 : Nat) ≤ 100000), ⟨by decide, by decide, by decide⟩, (by decide : (1 : Nat) ≤ 100000), (by decide : (9 : Nat) ≤ 100000), (by decide : (0 : Int) < 9), d, e, ?_⟩
    refine ⟨S, rfl, rfl, (by rw [b4]; exact b1), (by rw [b4]; exact b2), (fun ws z1 z2 => ?_), fun _ => ⟨true, F.ex, fun _ => ⟨⟨_, rfl, F.ec⟩, ?_⟩, fun z => nomatch z⟩⟩
    · rw [b4, b3] at z2
      cases z2
    · exact ⟨rfl, rfl, h⟩
  · exact h.elim
end
end DL.K21
namespace DL.K21
open PySem PySem.Spec PyProof.Rows L2
section
variable {K : PySem.W.Frag} {c_BadTurn c_Road c_BadName c_BadRecord c_BadZone c_BadChange c_BadLine c_BadRow c_BadLetter c_HouseError : Addr} {S : Sto} {P : W → Sto → Prop} {EP : Value → Sto → Prop}
/-- the road of the law -/
def St (c : Addr) (ways : List D) (cnt : Int) (ws : List D) (S : Sto) : Prop :=
  ∃ p, RoadAt c 1 ways p ws S ∧ RoadOk ways p ∧ (ways ≠ [] → p = cnt % (ways.length : Int)) ∧ (∀ d ∈ ws, PairOk d) ∧ (ws.length : Int) ≤ 2 * cnt ∧ 0 ≤ cnt
variable {c : Addr} {ways ws : List D} {cnt t : Int}
theorem St.app (h : St c ways cnt ws S) (t : Sto) : St c ways cnt ws (S ++ t) := by
  obtain ⟨p, h1, h2⟩ := h
  exact ⟨p, h1.app t, h2⟩
theorem St.obj (h : St c ways cnt ws S) {m : Str} (hm : ∀ a b c, lookW F3 [a, b, c] m = none) : isObj S c m (.ref 1) := by
  obtain ⟨p, h1, h2⟩ := h
  exact road_obj h1 hm
theorem St.many (h : St c ways cnt ws S) (q : P (.d (.int ws.length)) S) : g_p_Road_many c [.ref 1] S P EP := by
  obtain ⟨p, h1, h2⟩ := h
  exact ⟨_, _, _, h1, q⟩
theorem rest_ok (h : ∀ d ∈ ws, PairOk d) : (∀ d ∈ restD t ws, PairOk d) ∧ (restD t ws).length ≤ ws.length := ⟨fun d m => h d (List.mem_filter.mp m).1, List.length_filter_le _ _⟩
theorem due_len : (dueD t ws).length ≤ ws.length := by
  unfold dueD
  rw [List.length_map]
  exact List.length_filter_le _ _
theorem due_ck (h : ∀ d ∈ ws, PairOk d) : cmpOk (.lst (dueD t ws)) := (cn_lst (n := 2) fun d m => by
  obtain ⟨e, me, rfl⟩ := List.mem_map.mp m
  obtain ⟨i, x, rfl, hx⟩ := h e (List.mem_filter.mp me).1
  exact hx).ck
theorem St.due (h : St c ways cnt ws S) (h0 : 0 ≤ t) (hc : cnt ≤ 66) (q : ∀ S', St c ways cnt (restD t ws) S' → P (.own (dueD t ws)) S') : g_p_Road_due c [.ref 1, .int t] S P EP := by
  obtain ⟨p, h1, h2, h3, h4, h5, h6⟩ := h
  refine ⟨_, _, _, h1, h4, h0, by omega, fun S' hR => q S' ⟨p, hR, h2, h3, (rest_ok h4).1, ?_, h6⟩⟩
  have := (rest_ok (t := t) h4).2
  omega
theorem sent_ok {w : Int} {x : D} (h : ∀ d ∈ ws, PairOk d) (hx : ckN 2 x) : (∀ d ∈ sentW ws w x t, PairOk d) ∧ (sentW ws w x t).length ≤ ws.length + 2 := by
  unfold sentW
  split
  · exact ⟨h, by omega⟩
  · split
    · refine ⟨fun d m => ?_, by rw [List.length_append]; show _ + 1 ≤ _; omega⟩
      rcases List.mem_append.mp m with m | m
      · exact h d m
      · rw [List.mem_singleton.mp m]
        exact ⟨_, _, rfl, hx⟩
    · refine ⟨fun d m => ?_, by rw [List.length_append]; exact Nat.le_refl _⟩
      rcases List.mem_append.mp m with m | m
      · exact h d m
      · simp only [List.mem_cons, List.not_mem_nil, or_false] at m
        rcases m with rfl | rfl <;> exact ⟨_, _, rfl, hx⟩
theorem St.send (h : St c ways cnt ws S) {x : D} (h0 : 0 ≤ t) (hx : ckN 2 x) (hc : cnt ≤ 66) (q : ∀ S', St c ways (cnt + 1) (sentW ws (wayI ways (cnt % (ways.length : Int))) x t) S' → P (.d .non) S') : g_p_Road_send c [.ref 1, x, .int t] S P EP := by
  obtain ⟨p, h1, h2, h3, h4, h5, h6⟩ := h
  have ew : wayI ways p = wayI ways (cnt % (ways.length : Int)) := by
    by_cases e : ways = []
    · rw [e, way_nil, way_nil]
    · rw [h3 e]
  refine ⟨_, _, _, h1, h2, h0, by omega, fun S' hR => q S' ⟨nextP ways p, ?_, nextP_ok h2, fun hne => ?_, (sent_ok h4 hx).1, ?_, by omega⟩⟩
  · rw [ew] at hR
    exact hR
  · unfold nextP
    rw [if_neg (by rw [List.isEmpty_iff]; exact hne), h3 hne, Int.emod_add_emod]
  · have := (sent_ok (t := t) (w := wayI ways (cnt % (ways.length : Int))) h4 hx).2
    omega
theorem same_no (x : D) : (!eqD x x) = false := by rw [eqD_refl]; rfl
theorem br_no {A B : Prop} {x : D} (h : B) : ((!eqD x x) = true → A) ∧ ((!eqD x x) = false → B) := by
  rw [same_no]
  exact br_f h
theorem St.pairs (h : St c ways cnt ws S) : (∀ d ∈ ws, PairOk d) ∧ (ws.length : Int) ≤ 2 * cnt := by
  obtain ⟨p, h1, h2, h3, h4, h5, h6⟩ := h
  exact ⟨h4, h5⟩
theorem law_133 {cs : List D} {DD : DEnds} {t7 t8 t9 t10 t11 t12 t13 t14 t15 : Option W} (hS : St c_Road ways cnt ws S) (ht : 0 ≤ t) (hc : cnt ≤ 66)
    (hnx : ∀ S' t14 t11 t15, St c_Road ways cnt (restD (t + 1) ws) S' → DD.nx [some (.d (.lst cs)), some (.d (.lst ways)), some (.d (.ref 0)), some (.d (.ref 1)), some (.d (.lst (restD (t + 1) ws))), some (.d (.int cnt)), some (.d (.int (t + 1))), t7, t8, t9, t10, t11, t12, t13, t14, t15] S') :
    t_law_133 K c_BadTurn c_Road c_BadName c_BadRecord c_BadZone c_BadChange c_BadLine c_BadRow c_BadLetter c_HouseError (EE EP) DD [some (.d (.lst cs)), some (.d (.lst ways)), some (.d (.ref 0)), some (.d (.ref 1)), some (.d (.lst ws)), some (.d (.int cnt)), some (.d (.int t)), t7, t8, t9, t10, t11, t12, t13, t14, t15] S := by
  obtain ⟨hp, hl⟩ := hS.pairs
  refine ⟨hS.obj fun _ _ _ => rfl, hS.due (EP := EP) (by omega) hc fun S1 hS1 => ?_⟩
  refine compL_any (fun d => eqD (.int (whenD d)) (.int (t + 1))) letD ws [] (fun d m => ?_) (show 0 + _ ≤ 100000 by omega) ?_
  · obtain ⟨i, x, rfl, hx⟩ := hp d m
    exact ⟨_, fun R r => ⟨rfl, r⟩, fun Q q => ⟨ck_int _, ck_int _, q⟩, fun _ Q q => q⟩
  refine ⟨due_ck hp, due_ck hp, br_no ?_⟩
  refine compL_any (fun d => !eqD (.int (whenD d)) (.int (t + 1))) (fun d => d) ws [] (fun d m => ?_) (show 0 + _ ≤ 100000 by omega) ?_
  · obtain ⟨i, x, rfl, hx⟩ := hp d m
    exact ⟨_, fun R r => r, fun Q q => ⟨_, rfl, ck_int _, ck_int _, q⟩, fun _ Q q => q⟩
  rw [List.map_id', List.nil_append]
  exact hnx _ _ _ _ hS1
def Goes (DD : DEnds) : Prop := ∀ S, DD.rt (.d (.bl true)) S
theorem law_132 {cs : List D} {DD : DEnds} {t7 t8 t9 t10 t11 t12 t13 t14 t15 : Option W} (hS : St c_Road ways cnt ws S) (ht : 0 ≤ t) (hc : cnt ≤ 66) (hx : Goes DD) :
    t_law_132 K c_BadTurn c_Road c_BadName c_BadRecord c_BadZone c_BadChange c_BadLine c_BadRow c_BadLetter c_HouseError (EE EP) DD [some (.d (.lst cs)), some (.d (.lst ways)), some (.d (.ref 0)), some (.d (.ref 1)), some (.d (.lst ws)), some (.d (.int cnt)), some (.d (.int t)), t7, t8, t9, t10, t11, t12, t13, t14, t15] S := by
  refine ⟨by decide, by decide, ?_⟩
  refine forL_inv (fun r Γ S => ∃ ws t t7 t8 t9 t10 t11 t12 t13 t14 t15, Γ = [some (.d (.lst cs)), some (.d (.lst ways)), some (.d (.ref 0)), some (.d (.ref 1)), some (.d (.lst ws)), some (.d (.int cnt)), some (.d (.int t)), t7, t8, t9, t10, t11, t12, t13, t14, t15] ∧ 0 ≤ t ∧ St c_Road ways cnt ws S) ?_ ?_ _ _ _ ⟨_, _, _, _, _, _, _, _, _, _, _, rfl, ht, hS⟩
  · rintro Γ S1 ⟨ws, t, t7, t8, t9, t10, t11, t12, t13, t14, t15, rfl, ht, hS⟩
    refine ⟨hS.obj fun _ _ _ => rfl, hS.many (EP := EP) ⟨ck_int _, ck_int _, ?_⟩⟩
    show (eqD (.int ws.length) (.int ws.length) = true → _) ∧ (eqD (.int ws.length) (.int ws.length) = false → _)
    rw [eqD_refl]
    exact br_t ⟨hS.obj fun _ _ _ => rfl, hS.many (EP := EP) ⟨false, rfl, hx _⟩⟩
  · rintro x r Γ S1 nx hnx ⟨ws, t, t7, t8, t9, t10, t11, t12, t13, t14, t15, rfl, ht, hS⟩
    exact law_133 (K := K) (c_BadTurn := c_BadTurn) (c_Road := c_Road) (c_BadName := c_BadName) (c_BadRecord := c_BadRecord) (c_BadZone := c_BadZone) (c_BadChange := c_BadChange) (c_BadLine := c_BadLine) (c_BadRow := c_BadRow) (c_BadLetter := c_BadLetter) (c_HouseError := c_HouseError) hS ht hc fun S' u1 u2 u3 hS' => hnx _ _ ⟨_, _, _, _, _, _, _, _, _, _, _, rfl, by omega, hS'⟩
theorem law_126 {cs : List D} {DD : DEnds} {t7 t8 t9 t10 t11 t12 t13 t14 t15 : Option W} (hS : St c_Road ways cnt ws S) (ht : 0 ≤ t) (hc : cnt ≤ 66)
    (hnx : ∀ S' t11 t12 t13 t14 t15, St c_Road ways cnt (restD t ws) S' → DD.nx [some (.d (.lst cs)), some (.d (.lst ways)), some (.d (.ref 0)), some (.d (.ref 1)), some (.d (.lst (restD t ws))), some (.d (.int cnt)), some (.d (.int t)), t7, t8, t9, t10, t11, t12, t13, t14, t15] S') :
    t_law_126 K c_BadTurn c_Road c_BadName c_BadRecord c_BadZone c_BadChange c_BadLine c_BadRow c_BadLetter c_HouseError (EE EP) DD [some (.d (.lst cs)), some (.d (.lst ways)), some (.d (.ref 0)), some (.d (.ref 1)), some (.d (.lst ws)), some (.d (.int cnt)), some (.d (.int t)), t7, t8, t9, t10, t11, t12, t13, t14, t15] S := by
  obtain ⟨hp, hl⟩ := hS.pairs
  refine ⟨hS.obj fun _ _ _ => rfl, hS.due (EP := EP) ht hc fun S1 hS1 => ?_⟩
  refine compL_any (fun d => eqD (.int (whenD d)) (.int t)) letD ws [] (fun d m => ?_) (show 0 + _ ≤ 100000 by omega) ?_
  · obtain ⟨i, x, rfl, hx⟩ := hp d m
    exact ⟨_, fun R r => ⟨rfl, r⟩, fun Q q => ⟨ck_int _, ck_int _, q⟩, fun _ Q q => q⟩
  refine compL_any (fun d => !eqD (.int (whenD d)) (.int t)) (fun d => d) ws [] (fun d m => ?_) (show 0 + _ ≤ 100000 by omega) ?_
  · obtain ⟨i, x, rfl, hx⟩ := hp d m
    exact ⟨_, fun R r => r, fun Q q => ⟨_, rfl, ck_int _, ck_int _, q⟩, fun _ Q q => q⟩
  rw [List.map_id', List.nil_append]
  have dl := due_len (t := t) (ws := ws)
  refine ⟨true, rfl, br_f ⟨due_ck hp, due_ck hp, br_no ⟨hS1.obj fun _ _ _ => rfl, hS1.many (EP := EP) ⟨ck_int _, ck_int _, br_no ?_⟩⟩⟩⟩
  exact ⟨(show (dueD t ws).length + 1 ≤ 100000 by omega), hnx _ _ _ _ _ _ hS1⟩
theorem thing_ok {k s : Int} {d : D} (m : d ∈ [D.tup [.str ("letter" : Str), .int k], .str ("same" : Str), .non, .tup [.int s, .str ("x" : Str)]]) : ckN 2 d := by
  simp only [List.mem_cons, List.not_mem_nil, or_false] at m
  rcases m with rfl | rfl | rfl | rfl
  · refine cn_tup (n := 1) fun e m => ?_
    simp only [List.mem_cons, List.not_mem_nil, or_false] at m
    rcases m with rfl | rfl
    · exact cn_str 1 _
    · exact cn_int 1 _
  · exact cn_str 2 _
  · exact cn_non 2
  · refine cn_tup (n := 1) fun e m => ?_
    simp only [List.mem_cons, List.not_mem_nil, or_false] at m
    rcases m with rfl | rfl
    · exact cn_int 1 _
    · exact cn_str 1 _
theorem law_117 {cs : List D} {DD : DEnds} {s cell : Int} {t7 t10 t11 t12 t13 t14 t15 : Option W} (hw : ∀ d ∈ ways, WayOk d) (hwl : ways.length ≤ 200) (hS : St c_Road ways cnt ws S) (ht : 0 ≤ t) (hc : cnt ≤ 65) (hs0 : 0 ≤ s) (hs1 : s ≤ 100)
    (hnx : ∀ ws' S' t11, St c_Road ways (cnt + 1) ws' S' → DD.nx [some (.d (.lst cs)), some (.d (.lst ways)), some (.d (.ref 0)), some (.d (.ref 1)), some (.d (.lst ws')), some (.d (.int (cnt + 1))), some (.d (.int t)), t7, some (.d (.int s)), some (.d (.int cell)), t10, t11, t12, t13, t14, t15] S') :
    t_law_117 K c_BadTurn c_Road c_BadName c_BadRecord c_BadZone c_BadChange c_BadLine c_BadRow c_BadLetter c_HouseError (EE EP) DD [some (.d (.lst cs)), some (.d (.lst ways)), some (.d (.ref 0)), some (.d (.ref 1)), some (.d (.lst ws)), some (.d (.int cnt)), some (.d (.int t)), t7, some (.d (.int s)), some (.d (.int cell)), t10, t11, t12, t13, t14, t15] S := by
  obtain ⟨hp, hl⟩ := hS.pairs
  have c0 : 0 ≤ cnt := by omega
  have hm := mod_rng (cell / (5 + s)) (m := 4) (by decide)
  obtain ⟨d, e, m, _⟩ := at_ex (xs := [D.tup [.str ("letter" : Str), .int cnt], .str ("same" : Str), .non, .tup [.int (cnt / 2), .str ("x" : Str)]]) hm.1 hm.2
  have hd := thing_ok m
  refine ⟨(by decide : (2 : Nat) ≤ 100000), cdiv, (by decide : (2 : Nat) ≤ 100000), (by decide : (4 : Nat) ≤ 100000), cdiv (by omega) (by omega), (by decide : (0 : Int) < 4), d, e, ?_⟩
  refine ⟨hS.obj fun _ _ _ => rfl, hS.send (EP := EP) ht hd (by omega) fun S1 hS1 => br_f ?_⟩
  exact ⟨⟨c0, hw, hwl, by omega⟩, hnx _ _ _ hS1⟩
theorem law_122 (F : KF K c_BadTurn c_Road c_BadName c_BadRecord c_BadZone c_BadChange c_BadLine c_BadRow c_BadLetter c_HouseError) {cs : List D} {DD : DEnds} {cell : Int} {t7 t8 t10 t11 t12 t13 t14 t15 : Option W} (hS : St c_Road ways cnt ws S) (ht : 0 ≤ t) (hc : cnt ≤ 66) (h0 : 0 ≤ cell)
    (hnx : ∀ ws' t' S' t10 t11 t12 t13 t14 t15, 0 ≤ t' → St c_Road ways cnt ws' S' → DD.nx [some (.d (.lst cs)), some (.d (.lst ways)), some (.d (.ref 0)), some (.d (.ref 1)), some (.d (.lst ws')), some (.d (.int cnt)), some (.d (.int t')), t7, t8, some (.d (.int cell)), t10, t11, t12, t13, t14, t15] S') :
    t_law_122 K c_BadTurn c_Road c_BadName c_BadRecord c_BadZone c_BadChange c_BadLine c_BadRow c_BadLetter c_HouseError (EE EP) DD [some (.d (.lst cs)), some (.d (.lst ways)), some (.d (.ref 0)), some (.d (.ref 1)), some (.d (.lst ws)), some (.d (.int cnt)), some (.d (.int t)), t7, t8, some (.d (.int cell)), t10, t11, t12, t13, t14, t15] S := by
  have hS := hS.app [.ins c_Road [] []]
  have m7 := mod_rng (cell / 200) (m := 7) (by decide)
  have d6 : 0 ≤ cell / 200 % 7 / 6 := by omega
  have m2 := mod_rng (cell / 100) (m := 2) (by decide)
  refine ⟨cdiv, br_f ⟨hS.obj fun _ _ _ => rfl, hS.many (EP := EP) ⟨ck_int _, ck_int _, br_no ?_⟩⟩⟩
  refine ⟨cdiv, (by decide : (0 : Int) < 7), cdiv, cdiv, (by decide : (0 : Int) < 2), Int.le_trans (by decide) (show (0 : Int) ≤ 1 + cell / 100 % 2 by omega), Int.lt_trans (show 1 + cell / 100 % 2 < 100 by omega) (by decide), ?_⟩
  refine forL_inv (fun r Γ S => ∃ ws t10 t11 t12 t13 t14 t15, Γ = [some (.d (.lst cs)), some (.d (.lst ways)), some (.d (.ref 0)), some (.d (.ref 1)), some (.d (.lst ws)), some (.d (.int cnt)), some (.d (.int (t + 1 + cell / 200 % 7 / 6))), t7, t8, some (.d (.int cell)), t10, t11, t12, t13, t14, t15] ∧ St c_Road ways cnt ws S) ?_ ?_ _ _ _ ⟨_, _, _, _, _, _, _, rfl, hS⟩
  · rintro Γ S1 ⟨ws, t10, t11, t12, t13, t14, t15, rfl, hS⟩
    exact hnx _ _ _ _ _ _ _ _ _ (by omega) hS
  · rintro x r Γ S1 nx hnx ⟨ws, t10, t11, t12, t13, t14, t15, rfl, hS⟩
    exact law_126 (K := K) (c_BadTurn := c_BadTurn) (c_Road := c_Road) (c_BadName := c_BadName) (c_BadRecord := c_BadRecord) (c_BadZone := c_BadZone) (c_BadChange := c_BadChange) (c_BadLine := c_BadLine) (c_BadRow := c_BadRow) (c_BadLetter := c_BadLetter) (c_HouseError := c_HouseError) hS (by omega) hc fun S' u1 u2 u3 u4 u5 hS' => hnx _ _ ⟨_, _, _, _, _, _, _, rfl, hS'⟩
theorem law_115 (F : KF K c_BadTurn c_Road c_BadName c_BadRecord c_BadZone c_BadChange c_BadLine c_BadRow c_BadLetter c_HouseError) {cs : List D} {DD : DEnds} {k : Int} {t8 t9 t10 t11 t12 t13 t14 t15 : Option W} (hcs : ∀ c ∈ cs, ∃ i, c = .int i) (hk0 : 0 ≤ k) (hk1 : 3 + k < (cs.length : Int)) (hk2 : k ≤ 1000) (hw : ∀ d ∈ ways, WayOk d) (hwl : ways.length ≤ 200) (hS : St c_Road ways cnt ws S) (ht : 0 ≤ t) (hc : cnt ≤ 66)
    (hnx : ∀ ws' cnt' t' S' t8 t9 t10 t11 t12 t13 t14 t15, 0 ≤ t' → cnt' ≤ 66 → St c_Road ways cnt' ws' S' → DD.nx [some (.d (.lst cs)), some (.d (.lst ways)), some (.d (.ref 0)), some (.d (.ref 1)), some (.d (.lst ws')), some (.d (.int cnt')), some (.d (.int t')), some (.d (.int k)), t8, t9, t10, t11, t12, t13, t14, t15] S') :
    t_law_115 K c_BadTurn c_Road c_BadName c_BadRecord c_BadZone c_BadChange c_BadLine c_BadRow c_BadLetter c_HouseError (EE EP) DD [some (.d (.lst cs)), some (.d (.lst ways)), some (.d (.ref 0)), some (.d (.ref 1)), some (.d (.lst ws)), some (.d (.int cnt)), some (.d (.int t)), some (.d (.int k)), t8, t9, t10, t11, t12, t13, t14, t15] S := by
  obtain ⟨d, e, m, _⟩ := at_ex (xs := cs) (i := 3 + k) (by omega) hk1
  obtain ⟨i, rfl⟩ := hcs d m
  refine ⟨_, e, ⟨hk0, hk2⟩, fun cell h0 h1 => ?_⟩
  have go : ∀ n : Int, 0 ≤ n → cnt + n ≤ 66 → n ≤ 6 → forL (dgName 8) (t_law_117 K c_BadTurn c_Road c_BadName c_BadRecord c_BadZone c_BadChange c_BadLine c_BadRow c_BadLetter c_HouseError (EE EP)) (intsFrom 0 n.toNat) { DD with nx := t_law_122 K c_BadTurn c_Road c_BadName c_BadRecord c_BadZone c_BadChange c_BadLine c_BadRow c_BadLetter c_HouseError (EE EP) DD } [some (.d (.lst cs)), some (.d (.lst ways)), some (.d (.ref 0)), some (.d (.ref 1)), some (.d (.lst ws)), some (.d (.int cnt)), some (.d (.int t)), some (.d (.int k)), t8, some (.d (.int cell)), t10, t11, t12, t13, t14, t15] S := fun n n0 n1 n6 => by
    refine forL_inv (fun r Γ S => (∃ ws cnt t8 t11, Γ = [some (.d (.lst cs)), some (.d (.lst ways)), some (.d (.ref 0)), some (.d (.ref 1)), some (.d (.lst ws)), some (.d (.int cnt)), some (.d (.int t)), some (.d (.int k)), t8, some (.d (.int cell)), t10, t11, t12, t13, t14, t15] ∧ St c_Road ways cnt ws S ∧ cnt + (r.length : Int) ≤ 66) ∧ ∀ x ∈ r, ∃ s : Int, x = .int s ∧ 0 ≤ s ∧ s ≤ 100) ?_ ?_ _ _ _ ⟨⟨_, _, _, _, rfl, hS, ?_⟩, ?_⟩
    · rintro Γ S1 ⟨⟨ws, cnt, t8, t11, rfl, hS, hc⟩, _⟩
      have hc : cnt + ((0 : Nat) : Int) ≤ 66 := hc
      exact law_122 (K := K) (c_BadTurn := c_BadTurn) (c_Road := c_Road) (c_BadName := c_BadName) (c_BadRecord := c_BadRecord) (c_BadZone := c_BadZone) (c_BadChange := c_BadChange) (c_BadLine := c_BadLine) (c_BadRow := c_BadRow) (c_BadLetter := c_BadLetter) (c_HouseError := c_HouseError) F hS ht (by omega) h0 fun ws' t' S' u1 u2 u3 u4 u5 u6 ht' hS' => hnx _ _ _ _ _ _ _ _ _ _ _ _ ht' (by omega) hS'
    · rintro x r Γ S1 nx hnx ⟨⟨ws, cnt, t8, t11, rfl, hS, hc⟩, hr⟩
      obtain ⟨s, rfl, s0, s1⟩ := hr _ (.head _)
      rw [List.length_cons] at hc
      exact law_117 (K := K) (c_BadTurn := c_BadTurn) (c_Road := c_Road) (c_BadName := c_BadName) (c_BadRecord := c_BadRecord) (c_BadZone := c_BadZone) (c_BadChange := c_BadChange) (c_BadLine := c_BadLine) (c_BadRow := c_BadRow) (c_BadLetter := c_BadLetter) (c_HouseError := c_HouseError) hw hwl hS ht (by omega) s0 s1 fun ws' S' u1 hS' => hnx _ _ ⟨⟨_, _, _, _, rfl, hS', by omega⟩, fun x m => hr x (.tail _ m)⟩
    · rw [ints_len]
      omega
    · intro x m
      obtain ⟨s, rfl, s0, s1⟩ := ints_mem m
      exact ⟨s, rfl, by omega, by omega⟩
  refine br (fun z => ?_) fun z => ?_
  · have z : cnt < 60 := of_decide_eq_true z
    have hm := mod_rng cell (m := 5) (by decide)
    obtain ⟨d, e, m, _⟩ := at_ex (xs := [D.int 0, .int 1, .int 1, .int 2, .int 6]) hm.1 hm.2
    have hd : ∃ n : Int, d = .int n ∧ 0 ≤ n ∧ n ≤ 6 := by
      simp only [List.mem_cons, List.not_mem_nil, or_false] at m
      rcases m with rfl | rfl | rfl | rfl | rfl <;> exact ⟨_, rfl, by decide, by decide⟩
    obtain ⟨n, rfl, n0, n1⟩ := hd
    exact ⟨(by decide : (5 : Nat) ≤ 100000), (by decide : (0 : Int) < 5), _, e, Int.le_trans (by decide) n0, Int.lt_of_le_of_lt n1 (by decide), go n n0 (by omega) n1⟩
  · exact ⟨by decide, by decide, go 0 (by decide) (by omega) (by decide)⟩
theorem pure_law (F : KF K c_BadTurn c_Road c_BadName c_BadRecord c_BadZone c_BadChange c_BadLine c_BadRow c_BadLetter c_HouseError) : ∀ {ds : List D}, g_law ds S P EP → t_law K c_BadTurn c_Road c_BadName c_BadRecord c_BadZone c_BadChange c_BadLine c_BadRow c_BadLetter c_HouseError (EE EP) (DDs P) (startG 16 ds) S := fun {ds} h => by
  unfold g_law at h
  split at h
  · rename_i cs
    obtain ⟨⟨hcs, hl, rfl⟩, h⟩ := h
    refine ⟨hcs, fun ways hw hwl => ?_⟩
    have hok : okD (.lst ways) = true := okDs_of fun d m => by
      obtain ⟨i, rfl, _⟩ := hw d m
      rfl
    have hrow : rowOk (.lst ways) = true := by
      show (decide (ways.length ≤ 200) && ways.all fun d => amongD d 0 19) = true
      rw [decide_eq_true (by omega), Bool.true_and]
      refine List.all_eq_true.mpr fun d m => ?_
      obtain ⟨i, rfl, i0, i1⟩ := hw d m
      show (decide (0 ≤ i) && decide (i ≤ 19)) = true
      rw [decide_eq_true i0, decide_eq_true i1]
      rfl
    refine ⟨[.lst ways], rfl, rfl, hok, (fun ws e => by cases e; show _ ≤ _; omega), (fun ws e _ => ⟨rfl, ?_⟩), fun e => by
      have e : rowOk (.lst ways) = false := e
      rw [hrow] at e
      cases e⟩
    cases e
    refine ⟨⟨0, ways, rfl, rfl⟩, 0, ways, rfl, rfl, (show _ ≤ 100000 by omega), Nat.zero_le _, ⟨hcs, by decide⟩, fun i => ⟨⟨by decide, by decide, by decide⟩, (by decide : (0 : Int) < 10 ^ 9), ?_⟩⟩
    have ht := mod_rng i (m := 10 ^ 9) (by decide)
    have hS : St c_Road ways 0 [] [O.lst (ways ++ [.int 5]), .ins c_Road F3 [.d (.ref 2), .d (.int 0), .d (.ref 3)], .lst ways, .lst []] :=
      ⟨0, ⟨2, 3, by decide, rfl, rfl, rfl⟩, ⟨hw, by omega, fun hne => ⟨Int.le_refl _, by
        have : 0 < ways.length := List.length_pos_iff.mpr hne
        omega⟩⟩, fun hne => (Int.zero_emod _).symm, (fun d m => by cases m), Int.le_refl _, Int.le_refl _⟩
    have hn : ∃ n : Int, (if (cs.length : Int) - 3 > 0 then (cs.length : Int) - 3 else 0) = n ∧ 0 ≤ n ∧ n ≤ 60 ∧ (0 < n → 3 + n ≤ cs.length) := ⟨_, rfl, by split <;> omega, by split <;> omega, by split <;> omega⟩
    obtain ⟨n, en, n0, n1, n2⟩ := hn
    show -(2 ^ 62) ≤ (if (cs.length : Int) - 3 > 0 then (cs.length : Int) - 3 else 0) ∧ (if (cs.length : Int) - 3 > 0 then (cs.length : Int) - 3 else 0) < 2 ^ 62 ∧ _
    rw [en]
    refine ⟨Int.le_trans (by decide) n0, Int.lt_of_le_of_lt n1 (by decide), ?_⟩
    refine forL_inv (fun r Γ S => (∃ ws cnt t t7 t8 t9 t10 t11 t12 t13 t14 t15, Γ = [some (.d (.lst cs)), some (.d (.lst ways)), some (.d (.ref 0)), some (.d (.ref 1)), some (.d (.lst ws)), some (.d (.int cnt)), some (.d (.int t)), t7, t8, t9, t10, t11, t12, t13, t14, t15] ∧ St c_Road ways cnt ws S ∧ 0 ≤ t ∧ cnt ≤ 66) ∧ ∀ x ∈ r, ∃ k : Int, x = .int k ∧ 0 ≤ k ∧ 3 + k < cs.length) ?_ ?_ _ _ _ ⟨⟨_, _, _, _, _, _, _, _, _, _, _, _, rfl, hS, ht.1, by decide⟩, ?_⟩
    · rintro Γ S1 ⟨⟨ws, cnt, t, t7, t8, t9, t10, t11, t12, t13, t14, t15, rfl, hS, ht, hc⟩, _⟩
      exact law_132 (K := K) (c_BadTurn := c_BadTurn) (c_Road := c_Road) (c_BadName := c_BadName) (c_BadRecord := c_BadRecord) (c_BadZone := c_BadZone) (c_BadChange := c_BadChange) (c_BadLine := c_BadLine) (c_BadRow := c_BadRow) (c_BadLetter := c_BadLetter) (c_HouseError := c_HouseError) hS ht hc h
    · rintro x r Γ S1 nx hnx ⟨⟨ws, cnt, t, t7, t8, t9, t10, t11, t12, t13, t14, t15, rfl, hS, ht, hc⟩, hr⟩
      obtain ⟨k, rfl, k0, k1⟩ := hr _ (.head _)
      exact law_115 (K := K) (c_BadTurn := c_BadTurn) (c_Road := c_Road) (c_BadName := c_BadName) (c_BadRecord := c_BadRecord) (c_BadZone := c_BadZone) (c_BadChange := c_BadChange) (c_BadLine := c_BadLine) (c_BadRow := c_BadRow) (c_BadLetter := c_BadLetter) (c_HouseError := c_HouseError) F hcs k0 k1 (by omega) hw (by omega) hS ht hc fun ws' cnt' t' S' u1 u2 u3 u4 u5 u6 u7 u8 ht' hc' hS' => hnx _ _ ⟨⟨_, _, _, _, _, _, _, _, _, _, _, _, rfl, hS', ht', hc'⟩, fun x m => hr x (.tail _ m)⟩
    · intro x m
      obtain ⟨k, rfl, k0, k1⟩ := ints_mem m
      exact ⟨k, rfl, k0, by omega⟩
  · exact h.elim
theorem entry {ns : List Int} (hl : ns.length ≤ 63) {P : W → Sto → Prop} {EP : Value → Sto → Prop} (h : ∀ S', P (.d (.bl true)) S') : g_law [.lst (ns.map D.int)] [] P EP :=
  ⟨⟨fun c m => by
    obtain ⟨i, _, rfl⟩ := List.mem_map.mp m
    exact ⟨i, rfl⟩, by rw [List.length_map]; exact hl, rfl⟩, h⟩
end
end DL.K21
namespace DL.K21
open PySem PySem.Spec PyProof.Rows L2
theorem ok_p_is_among {P : Program} {wd : World} {K : PySem.W.Frag} {mg : Str → Option Value} {base : Heap} {c_BadTurn c_Road c_BadName c_BadRecord c_BadZone c_BadChange c_BadLine c_BadRow c_BadLetter c_HouseError : Addr} (T : Txt K mg c_BadTurn c_Road c_BadName c_BadRecord c_BadZone c_BadChange c_BadLine c_BadRow c_BadLetter c_HouseError) (F : KF K c_BadTurn c_Road c_BadName c_BadRecord c_BadZone c_BadChange c_BadLine c_BadRow c_BadLetter c_HouseError)  (r : Raw K mg "is_among" st_p_is_among ps_p_is_among) : Has P wd K mg base 1 "is_among" ps_p_is_among g_p_is_among :=
  has_ok r sc_p_is_among (fun ds S P EP h => by first | exact len0 ds S P EP h | exact len1 ds S P EP h | exact len2 ds S P EP h | exact len3 ds S P EP h | (unfold g_p_is_among at h; split at h <;> first | rfl | exact h.elim))
    fun f cdv A outer s H E B P0 EP ds S hr dx h => ⟨_, w_p_is_among T  hr dx, pure_p_is_among h⟩
theorem ok_p_need_turn {P : Program} {wd : World} {K : PySem.W.Frag} {mg : Str → Option Value} {base : Heap} {c_BadTurn c_Road c_BadName c_BadRecord c_BadZone c_BadChange c_BadLine c_BadRow c_BadLetter c_HouseError : Addr} (T : Txt K mg c_BadTurn c_Road c_BadName c_BadRecord c_BadZone c_BadChange c_BadLine c_BadRow c_BadLetter c_HouseError) (F : KF K c_BadTurn c_Road c_BadName c_BadRecord c_BadZone c_BadChange c_BadLine c_BadRow c_BadLetter c_HouseError)  (r : Raw K mg "need_turn" st_p_need_turn ps_p_need_turn) : Has P wd K mg base 1 "need_turn" ps_p_need_turn g_p_need_turn :=
  has_ok r sc_p_need_turn (fun ds S P EP h => by first | exact len0 ds S P EP h | exact len1 ds S P EP h | exact len2 ds S P EP h | exact len3 ds S P EP h | (unfold g_p_need_turn at h; split at h <;> first | rfl | exact h.elim))
    fun f cdv A outer s H E B P0 EP ds S hr dx h => ⟨_, w_p_need_turn T  hr dx, pure_p_need_turn h⟩
theorem ok_p_Road_init {P : Program} {wd : World} {K : PySem.W.Frag} {mg : Str → Option Value} {base : Heap} {c_BadTurn c_Road c_BadName c_BadRecord c_BadZone c_BadChange c_BadLine c_BadRow c_BadLetter c_HouseError : Addr} (T : Txt K mg c_BadTurn c_Road c_BadName c_BadRecord c_BadZone c_BadChange c_BadLine c_BadRow c_BadLetter c_HouseError) (F : KF K c_BadTurn c_Road c_BadName c_BadRecord c_BadZone c_BadChange c_BadLine c_BadRow c_BadLetter c_HouseError) (h_p_is_among : Has P wd K mg base 1 "is_among" ps_p_is_among g_p_is_among) (r : RawI K mg "Road" c_Road "Road.__init__" st_p_Road_init ps_p_Road_init) : HasI P wd K mg base 2 "Road" c_Road ps_p_Road_init (g_p_Road_init c_Road c_BadTurn) :=
  hasi_ok r sc_p_Road_init (fun ds S P EP h => by first | exact len0 ds S P EP h | exact len1 ds S P EP h | exact len2 ds S P EP h | exact len3 ds S P EP h | (unfold g_p_Road_init at h; split at h <;> first | rfl | exact h.elim))
    fun f cdv A outer s H E B P0 EP ds S hr dx h => ⟨_, w_p_Road_init T h_p_is_among hr dx, pure_p_Road_init h⟩
theorem ok_p_Road_next_way {P : Program} {wd : World} {K : PySem.W.Frag} {mg : Str → Option Value} {base : Heap} {c_BadTurn c_Road c_BadName c_BadRecord c_BadZone c_BadChange c_BadLine c_BadRow c_BadLetter c_HouseError : Addr} (T : Txt K mg c_BadTurn c_Road c_BadName c_BadRecord c_BadZone c_BadChange c_BadLine c_BadRow c_BadLetter c_HouseError) (F : KF K c_BadTurn c_Road c_BadName c_BadRecord c_BadZone c_BadChange c_BadLine c_BadRow c_BadLetter c_HouseError)  (r : RawM K c_Road "next_way" "Road.next_way" st_p_Road_next_way ps_p_Road_next_way) : HasM P wd K mg base 1 c_Road "next_way" ps_p_Road_next_way (g_p_Road_next_way c_Road) :=
  hasm_ok r sc_p_Road_next_way (fun ds S P EP h => by first | exact len0 ds S P EP h | exact len1 ds S P EP h | exact len2 ds S P EP h | exact len3 ds S P EP h | (unfold g_p_Road_next_way at h; split at h <;> first | rfl | exact h.elim))
    fun f cdv A outer s H E B P0 EP ds S hr dx h => ⟨_, w_p_Road_next_way T  hr dx, pure_p_Road_next_way h⟩
theorem ok_p_Road_send {P : Program} {wd : World} {K : PySem.W.Frag} {mg : Str → Option Value} {base : Heap} {c_BadTurn c_Road c_BadName c_BadRecord c_BadZone c_BadChange c_BadLine c_BadRow c_BadLetter c_HouseError : Addr} (T : Txt K mg c_BadTurn c_Road c_BadName c_BadRecord c_BadZone c_BadChange c_BadLine c_BadRow c_BadLetter c_HouseError) (F : KF K c_BadTurn c_Road c_BadName c_BadRecord c_BadZone c_BadChange c_BadLine c_BadRow c_BadLetter c_HouseError) (h_p_need_turn : Has P wd K mg base 1 "need_turn" ps_p_need_turn g_p_need_turn) (h_p_Road_next_way : HasM P wd K mg base 1 c_Road "next_way" ps_p_Road_next_way (g_p_Road_next_way c_Road)) (r : RawM K c_Road "send" "Road.send" st_p_Road_send ps_p_Road_send) : HasM P wd K mg base 2 c_Road "send" ps_p_Road_send (g_p_Road_send c_Road) :=
  hasm_ok r sc_p_Road_send (fun ds S P EP h => by first | exact len0 ds S P EP h | exact len1 ds S P EP h | exact len2 ds S P EP h | exact len3 ds S P EP h | (unfold g_p_Road_send at h; split at h <;> first | rfl | exact h.elim))
    fun f cdv A outer s H E B P0 EP ds S hr dx h => ⟨_, w_p_Road_send T h_p_need_turn h_p_Road_next_way hr dx, pure_p_Road_send h⟩
theorem ok_p_Road_due {P : Program} {wd : World} {K : PySem.W.Frag} {mg : Str → Option Value} {base : Heap} {c_BadTurn c_Road c_BadName c_BadRecord c_BadZone c_BadChange c_BadLine c_BadRow c_BadLetter c_HouseError : Addr} (T : Txt K mg c_BadTurn c_Road c_BadName c_BadRecord c_BadZone c_BadChange c_BadLine c_BadRow c_BadLetter c_HouseError) (F : KF K c_BadTurn c_Road c_BadName c_BadRecord c_BadZone c_BadChange c_BadLine c_BadRow c_BadLetter c_HouseError) (h_p_need_turn : Has P wd K mg base 1 "need_turn" ps_p_need_turn g_p_need_turn) (r : RawM K c_Road "due" "Road.due" st_p_Road_due ps_p_Road_due) : HasM P wd K mg base 2 c_Road "due" ps_p_Road_due (g_p_Road_due c_Road) :=
  hasm_ok r sc_p_Road_due (fun ds S P EP h => by first | exact len0 ds S P EP h | exact len1 ds S P EP h | exact len2 ds S P EP h | exact len3 ds S P EP h | (unfold g_p_Road_due at h; split at h <;> first | rfl | exact h.elim))
    fun f cdv A outer s H E B P0 EP ds S hr dx h => ⟨_, w_p_Road_due T h_p_need_turn hr dx, pure_p_Road_due h⟩
theorem ok_p_Road_many {P : Program} {wd : World} {K : PySem.W.Frag} {mg : Str → Option Value} {base : Heap} {c_BadTurn c_Road c_BadName c_BadRecord c_BadZone c_BadChange c_BadLine c_BadRow c_BadLetter c_HouseError : Addr} (T : Txt K mg c_BadTurn c_Road c_BadName c_BadRecord c_BadZone c_BadChange c_BadLine c_BadRow c_BadLetter c_HouseError) (F : KF K c_BadTurn c_Road c_BadName c_BadRecord c_BadZone c_BadChange c_BadLine c_BadRow c_BadLetter c_HouseError)  (r : RawM K c_Road "many" "Road.many" st_p_Road_many ps_p_Road_many) : HasM P wd K mg base 1 c_Road "many" ps_p_Road_many (g_p_Road_many c_Road) :=
  hasm_ok r sc_p_Road_many (fun ds S P EP h => by first | exact len0 ds S P EP h | exact len1 ds S P EP h | exact len2 ds S P EP h | exact len3 ds S P EP h | (unfold g_p_Road_many at h; split at h <;> first | rfl | exact h.elim))
    fun f cdv A outer s H E B P0 EP ds S hr dx h => ⟨_, w_p_Road_many T  hr dx, pure_p_Road_many h⟩
theorem ok_draw {P : Program} {wd : World} {K : PySem.W.Frag} {mg : Str → Option Value} {base : Heap} {c_BadTurn c_Road c_BadName c_BadRecord c_BadZone c_BadChange c_BadLine c_BadRow c_BadLetter c_HouseError : Addr} (T : Txt K mg c_BadTurn c_Road c_BadName c_BadRecord c_BadZone c_BadChange c_BadLine c_BadRow c_BadLetter c_HouseError) (F : KF K c_BadTurn c_Road c_BadName c_BadRecord c_BadZone c_BadChange c_BadLine c_BadRow c_BadLetter c_HouseError)  (r : Raw K mg "_law_draw" st_draw ps_draw) : Has P wd K mg base 1 "_law_draw" ps_draw g_draw :=
  has_ok r sc_draw (fun ds S P EP h => by first | exact len0 ds S P EP h | exact len1 ds S P EP h | exact len2 ds S P EP h | exact len3 ds S P EP h | (unfold g_draw at h; split at h <;> first | rfl | exact h.elim))
    fun f cdv A outer s H E B P0 EP ds S hr dx h => ⟨_, w_draw T  hr dx, pure_draw h⟩
theorem ok_spread {P : Program} {wd : World} {K : PySem.W.Frag} {mg : Str → Option Value} {base : Heap} {c_BadTurn c_Road c_BadName c_BadRecord c_BadZone c_BadChange c_BadLine c_BadRow c_BadLetter c_HouseError : Addr} (T : Txt K mg c_BadTurn c_Road c_BadName c_BadRecord c_BadZone c_BadChange c_BadLine c_BadRow c_BadLetter c_HouseError) (F : KF K c_BadTurn c_Road c_BadName c_BadRecord c_BadZone c_BadChange c_BadLine c_BadRow c_BadLetter c_HouseError)  (r : Raw K mg "_law_spread" st_spread ps_spread) : Has P wd K mg base 1 "_law_spread" ps_spread g_spread :=
  has_ok r sc_spread (fun ds S P EP h => by first | exact len0 ds S P EP h | exact len1 ds S P EP h | exact len2 ds S P EP h | exact len3 ds S P EP h | (unfold g_spread at h; split at h <;> first | rfl | exact h.elim))
    fun f cdv A outer s H E B P0 EP ds S hr dx h => ⟨_, w_spread T  hr dx, pure_spread h⟩
theorem ok_alone {P : Program} {wd : World} {K : PySem.W.Frag} {mg : Str → Option Value} {base : Heap} {c_BadTurn c_Road c_BadName c_BadRecord c_BadZone c_BadChange c_BadLine c_BadRow c_BadLetter c_HouseError : Addr} (T : Txt K mg c_BadTurn c_Road c_BadName c_BadRecord c_BadZone c_BadChange c_BadLine c_BadRow c_BadLetter c_HouseError) (F : KF K c_BadTurn c_Road c_BadName c_BadRecord c_BadZone c_BadChange c_BadLine c_BadRow c_BadLetter c_HouseError)  (r : Raw K mg "_law_alone" st_alone ps_alone) : Has P wd K mg base 1 "_law_alone" ps_alone (g_alone c_BadTurn) :=
  has_ok r sc_alone (fun ds S P EP h => by first | exact len0 ds S P EP h | exact len1 ds S P EP h | exact len2 ds S P EP h | exact len3 ds S P EP h | (unfold g_alone at h; split at h <;> first | rfl | exact h.elim))
    fun f cdv A outer s H E B P0 EP ds S hr dx h => ⟨_, w_alone T  hr dx, pure_alone F h⟩
theorem ok_row {P : Program} {wd : World} {K : PySem.W.Frag} {mg : Str → Option Value} {base : Heap} {c_BadTurn c_Road c_BadName c_BadRecord c_BadZone c_BadChange c_BadLine c_BadRow c_BadLetter c_HouseError : Addr} (T : Txt K mg c_BadTurn c_Road c_BadName c_BadRecord c_BadZone c_BadChange c_BadLine c_BadRow c_BadLetter c_HouseError) (F : KF K c_BadTurn c_Road c_BadName c_BadRecord c_BadZone c_BadChange c_BadLine c_BadRow c_BadLetter c_HouseError) (h_spread : Has P wd K mg base 1 "_law_spread" ps_spread g_spread) (h_draw : Has P wd K mg base 1 "_law_draw" ps_draw g_draw) (r : Raw K mg "_law_row" st_row ps_row) : Has P wd K mg base 2 "_law_row" ps_row g_row :=
  has_ok r sc_row (fun ds S P EP h => by first | exact len0 ds S P EP h | exact len1 ds S P EP h | exact len2 ds S P EP h | exact len3 ds S P EP h | (unfold g_row at h; split at h <;> first | rfl | exact h.elim))
    fun f cdv A outer s H E B P0 EP ds S hr dx h => ⟨_, w_row T h_spread h_draw hr dx, pure_row h⟩
theorem ok_sent {P : Program} {wd : World} {K : PySem.W.Frag} {mg : Str → Option Value} {base : Heap} {c_BadTurn c_Road c_BadName c_BadRecord c_BadZone c_BadChange c_BadLine c_BadRow c_BadLetter c_HouseError : Addr} (T : Txt K mg c_BadTurn c_Road c_BadName c_BadRecord c_BadZone c_BadChange c_BadLine c_BadRow c_BadLetter c_HouseError) (F : KF K c_BadTurn c_Road c_BadName c_BadRecord c_BadZone c_BadChange c_BadLine c_BadRow c_BadLetter c_HouseError)  (r : Raw K mg "_law_sent" st_sent ps_sent) : Has P wd K mg base 1 "_law_sent" ps_sent g_sent :=
  has_ok r sc_sent (fun ds S P EP h => by first | exact len0 ds S P EP h | exact len1 ds S P EP h | exact len2 ds S P EP h | exact len3 ds S P EP h | (unfold g_sent at h; split at h <;> first | rfl | exact h.elim))
    fun f cdv A outer s H E B P0 EP ds S hr dx h => ⟨_, w_sent T  hr dx, pure_sent h⟩
theorem ok_refused {P : Program} {wd : World} {K : PySem.W.Frag} {mg : Str → Option Value} {base : Heap} {c_BadTurn c_Road c_BadName c_BadRecord c_BadZone c_BadChange c_BadLine c_BadRow c_BadLetter c_HouseError : Addr} (T : Txt K mg c_BadTurn c_Road c_BadName c_BadRecord c_BadZone c_BadChange c_BadLine c_BadRow c_BadLetter c_HouseError) (F : KF K c_BadTurn c_Road c_BadName c_BadRecord c_BadZone c_BadChange c_BadLine c_BadRow c_BadLetter c_HouseError) (h_p_Road_init : HasI P wd K mg base 2 "Road" c_Road ps_p_Road_init (g_p_Road_init c_Road c_BadTurn)) (h_alone : Has P wd K mg base 1 "_law_alone" ps_alone (g_alone c_BadTurn)) (r : Raw K mg "_law_refused" st_refused ps_refused) : Has P wd K mg base 4 "_law_refused" ps_refused (g_refused c_Road) :=
  has_ok r sc_refused (fun ds S P EP h => by first | exact len0 ds S P EP h | exact len1 ds S P EP h | exact len2 ds S P EP h | exact len3 ds S P EP h | (unfold g_refused at h; split at h <;> first | rfl | exact h.elim))
    fun f cdv A outer s H E B P0 EP ds S hr dx h => ⟨_, w_refused T h_p_Road_init h_alone hr dx, pure_refused F h⟩
theorem ok_law {P : Program} {wd : World} {K : PySem.W.Frag} {mg : Str → Option Value} {base : Heap} {c_BadTurn c_Road c_BadName c_BadRecord c_BadZone c_BadChange c_BadLine c_BadRow c_BadLetter c_HouseError : Addr} (T : Txt K mg c_BadTurn c_Road c_BadName c_BadRecord c_BadZone c_BadChange c_BadLine c_BadRow c_BadLetter c_HouseError) (F : KF K c_BadTurn c_Road c_BadName c_BadRecord c_BadZone c_BadChange c_BadLine c_BadRow c_BadLetter c_HouseError) (h_row : Has P wd K mg base 2 "_law_row" ps_row g_row) (h_p_Road_init : HasI P wd K mg base 2 "Road" c_Road ps_p_Road_init (g_p_Road_init c_Road c_BadTurn)) (h_draw : Has P wd K mg base 1 "_law_draw" ps_draw g_draw) (h_spread : Has P wd K mg base 1 "_law_spread" ps_spread g_spread) (h_p_Road_send : HasM P wd K mg base 2 c_Road "send" ps_p_Road_send (g_p_Road_send c_Road)) (h_sent : Has P wd K mg base 1 "_law_sent" ps_sent g_sent) (h_refused : Has P wd K mg base 4 "_law_refused" ps_refused (g_refused c_Road)) (h_p_Road_many : HasM P wd K mg base 1 c_Road "many" ps_p_Road_many (g_p_Road_many c_Road)) (h_p_Road_due : HasM P wd K mg base 2 c_Road "due" ps_p_Road_due (g_p_Road_due c_Road)) {f : Addr} {fd : FuncData} (r : Fun K "law" "law" st_law f fd) : FnOk P wd K mg base (L2.CX P wd) 5 f fd ps_law (spS K g_law) :=
  fun_ok r sc_law (fun ds S P EP h => by first | exact len0 ds S P EP h | exact len1 ds S P EP h | exact len2 ds S P EP h | exact len3 ds S P EP h | (unfold g_law at h; split at h <;> first | rfl | exact h.elim))
    fun cdv A outer s H E B P0 EP ds S hr dx h => ⟨_, w_law T h_row h_p_Road_init h_draw h_spread h_p_Road_send h_sent h_refused h_p_Road_many h_p_Road_due hr dx, pure_law F h⟩
theorem all_ok {P : Program} {wd : World} {K : PySem.W.Frag} {mg : Str → Option Value} {base : Heap} {c_BadTurn c_Road c_BadName c_BadRecord c_BadZone c_BadChange c_BadLine c_BadRow c_BadLetter c_HouseError : Addr} (T : Txt K mg c_BadTurn c_Road c_BadName c_BadRecord c_BadZone c_BadChange c_BadLine c_BadRow c_BadLetter c_HouseError) (F : KF K c_BadTurn c_Road c_BadName c_BadRecord c_BadZone c_BadChange c_BadLine c_BadRow c_BadLetter c_HouseError) (r_p_is_among : Raw K mg "is_among" st_p_is_among ps_p_is_among) (r_p_need_turn : Raw K mg "need_turn" st_p_need_turn ps_p_need_turn) (r_p_Road_init : RawI K mg "Road" c_Road "Road.__init__" st_p_Road_init ps_p_Road_init) (r_p_Road_next_way : RawM K c_Road "next_way" "Road.next_way" st_p_Road_next_way ps_p_Road_next_way) (r_p_Road_send : RawM K c_Road "send" "Road.send" st_p_Road_send ps_p_Road_send) (r_p_Road_due : RawM K c_Road "due" "Road.due" st_p_Road_due ps_p_Road_due) (r_p_Road_many : RawM K c_Road "many" "Road.many" st_p_Road_many ps_p_Road_many) (r_draw : Raw K mg "_law_draw" st_draw ps_draw) (r_spread : Raw K mg "_law_spread" st_spread ps_spread) (r_alone : Raw K mg "_law_alone" st_alone ps_alone) (r_row : Raw K mg "_law_row" st_row ps_row) (r_sent : Raw K mg "_law_sent" st_sent ps_sent) (r_refused : Raw K mg "_law_refused" st_refused ps_refused) {f : Addr} {fd : FuncData} (r_law : Fun K "law" "law" st_law f fd) : FnOk P wd K mg base (L2.CX P wd) 5 f fd ps_law (spS K g_law) := by
  have h_p_is_among := ok_p_is_among (P := P) (wd := wd) (base := base) T F  r_p_is_among
  have h_p_need_turn := ok_p_need_turn (P := P) (wd := wd) (base := base) T F  r_p_need_turn
  have h_p_Road_next_way := ok_p_Road_next_way (P := P) (wd := wd) (base := base) T F  r_p_Road_next_way
  have h_p_Road_many := ok_p_Road_many (P := P) (wd := wd) (base := base) T F  r_p_Road_many
  have h_draw := ok_draw (P := P) (wd := wd) (base := base) T F  r_draw
  have h_spread := ok_spread (P := P) (wd := wd) (base := base) T F  r_spread
  have h_alone := ok_alone (P := P) (wd := wd) (base := base) T F  r_alone
  have h_sent := ok_sent (P := P) (wd := wd) (base := base) T F  r_sent
  have h_p_Road_init := ok_p_Road_init (P := P) (wd := wd) (base := base) T F h_p_is_among r_p_Road_init
  have h_p_Road_send := ok_p_Road_send (P := P) (wd := wd) (base := base) T F h_p_need_turn h_p_Road_next_way r_p_Road_send
  have h_p_Road_due := ok_p_Road_due (P := P) (wd := wd) (base := base) T F h_p_need_turn r_p_Road_due
  have h_row := ok_row (P := P) (wd := wd) (base := base) T F h_spread h_draw r_row
  have h_refused := ok_refused (P := P) (wd := wd) (base := base) T F h_p_Road_init h_alone r_refused
  have h_law := ok_law (P := P) (wd := wd) (base := base) T F h_row h_p_Road_init h_draw h_spread h_p_Road_send h_sent h_refused h_p_Road_many h_p_Road_due r_law
  exact h_law
end DL.K21
namespace DL.K21
open PySem PySem.Spec PyProof.Rows L2
theorem all_mk {l : PySem.W.OpenLaw} {w : World} {K : PySem.W.Frag} {h : Heap} {mg : Str → Option Value} {fa c_BadTurn c_Road c_BadName c_BadRecord c_BadZone c_BadChange c_BadLine c_BadRow c_BadLetter c_HouseError : Addr} (X : K.In h) (G : h.Ns mainGlobals mg) (hfa : mg "law" = some (.ref fa))
    {a_p_is_among : Addr} {oc_p_is_among kV_p_is_among dc_p_is_among pm_p_is_among cd_p_is_among ct_p_is_among : Value} {od_p_is_among an_p_is_among : Option Addr} {sl_p_is_among : Array (Option Value)}
    {a_p_need_turn : Addr} {oc_p_need_turn kV_p_need_turn dc_p_need_turn pm_p_need_turn cd_p_need_turn ct_p_need_turn : Value} {od_p_need_turn an_p_need_turn : Option Addr} {sl_p_need_turn : Array (Option Value)}
    {a_p_Road_init : Addr} {oc_p_Road_init kV_p_Road_init dc_p_Road_init pm_p_Road_init cd_p_Road_init ct_p_Road_init : Value} {od_p_Road_init an_p_Road_init : Option Addr} {sl_p_Road_init : Array (Option Value)}
    {a_p_Road_next_way : Addr} {oc_p_Road_next_way kV_p_Road_next_way dc_p_Road_next_way pm_p_Road_next_way cd_p_Road_next_way ct_p_Road_next_way : Value} {od_p_Road_next_way an_p_Road_next_way : Option Addr} {sl_p_Road_next_way : Array (Option Value)}
    {a_p_Road_send : Addr} {oc_p_Road_send kV_p_Road_send dc_p_Road_send pm_p_Road_send cd_p_Road_send ct_p_Road_send : Value} {od_p_Road_send an_p_Road_send : Option Addr} {sl_p_Road_send : Array (Option Value)}
    {a_p_Road_due : Addr} {oc_p_Road_due kV_p_Road_due dc_p_Road_due pm_p_Road_due cd_p_Road_due ct_p_Road_due : Value} {od_p_Road_due an_p_Road_due : Option Addr} {sl_p_Road_due : Array (Option Value)}
    {a_p_Road_many : Addr} {oc_p_Road_many kV_p_Road_many dc_p_Road_many pm_p_Road_many cd_p_Road_many ct_p_Road_many : Value} {od_p_Road_many an_p_Road_many : Option Addr} {sl_p_Road_many : Array (Option Value)}
    {a_draw : Addr} {oc_draw kV_draw dc_draw pm_draw cd_draw ct_draw : Value} {od_draw an_draw : Option Addr} {sl_draw : Array (Option Value)}
    {a_spread : Addr} {oc_spread kV_spread dc_spread pm_spread cd_spread ct_spread : Value} {od_spread an_spread : Option Addr} {sl_spread : Array (Option Value)}
    {a_alone : Addr} {oc_alone kV_alone dc_alone pm_alone cd_alone ct_alone : Value} {od_alone an_alone : Option Addr} {sl_alone : Array (Option Value)}
    {a_row : Addr} {oc_row kV_row dc_row pm_row cd_row ct_row : Value} {od_row an_row : Option Addr} {sl_row : Array (Option Value)}
    {a_sent : Addr} {oc_sent kV_sent dc_sent pm_sent cd_sent ct_sent : Value} {od_sent an_sent : Option Addr} {sl_sent : Array (Option Value)}
    {a_refused : Addr} {oc_refused kV_refused dc_refused pm_refused cd_refused ct_refused : Value} {od_refused an_refused : Option Addr} {sl_refused : Array (Option Value)}
    {a_law : Addr} {oc_law kV_law dc_law pm_law cd_law ct_law : Value} {od_law an_law : Option Addr} {sl_law : Array (Option Value)}
    {tk_MOST_ROW : Tok}
    {tk_MOST_WAY : Tok}
    {tk_LOST : Tok}
    (n_isinstance : PySem.W.nsIn K mainGlobals "isinstance" = some none)
    (n_int : PySem.W.nsIn K mainGlobals "int" = some none)
    (n_bool : PySem.W.nsIn K mainGlobals "bool" = some none)
    (n_BadTurn : PySem.W.nsIn K mainGlobals "BadTurn" = some (some (.ref c_BadTurn)))
    (k_BadTurn : PySem.W.keepIn K (.ref c_BadTurn) = true)
    (r1_BadTurn : PySem.W.subIn K (.ref c_BadTurn) (.type "BaseException") = some true)
    (r2_BadTurn : PySem.W.typeIn K (.ref c_BadTurn) = some (.type "type"))
    (x_BadTurn : PySem.W.excIn K c_BadTurn [.type "ValueError", .type "Exception", .type "BaseException", .type "object"] "ValueError.__new__" = true)
    (n_list : PySem.W.nsIn K mainGlobals "list" = some none)
    (n_len : PySem.W.nsIn K mainGlobals "len" = some none)
    (n_MOST_ROW : PySem.W.nsIn K mainGlobals "MOST_ROW" = some (some (.int 200 tk_MOST_ROW)))
    (n_all : PySem.W.nsIn K mainGlobals "all" = some none)
    (n_MOST_WAY : PySem.W.nsIn K mainGlobals "MOST_WAY" = some (some (.int 19 tk_MOST_WAY)))
    (n_Road : PySem.W.nsIn K mainGlobals "Road" = some (some (.ref c_Road)))
    (n_LOST : PySem.W.nsIn K mainGlobals "LOST" = some (some (.int 10 tk_LOST)))
    (n_ValueError : PySem.W.nsIn K mainGlobals "ValueError" = some none)
    (n_BadName : PySem.W.nsIn K mainGlobals "BadName" = some (some (.ref c_BadName)))
    (n_BadRecord : PySem.W.nsIn K mainGlobals "BadRecord" = some (some (.ref c_BadRecord)))
    (n_BadZone : PySem.W.nsIn K mainGlobals "BadZone" = some (some (.ref c_BadZone)))
    (n_BadChange : PySem.W.nsIn K mainGlobals "BadChange" = some (some (.ref c_BadChange)))
    (n_BadLine : PySem.W.nsIn K mainGlobals "BadLine" = some (some (.ref c_BadLine)))
    (n_BadRow : PySem.W.nsIn K mainGlobals "BadRow" = some (some (.ref c_BadRow)))
    (n_BadLetter : PySem.W.nsIn K mainGlobals "BadLetter" = some (some (.ref c_BadLetter)))
    (n_range : PySem.W.nsIn K mainGlobals "range" = some none)
    (n_HouseError : PySem.W.nsIn K mainGlobals "HouseError" = some (some (.ref c_HouseError)))
    (n_max : PySem.W.nsIn K mainGlobals "max" = some none)
    (pg_Road : PySem.W.plainGet K c_Road Str.empty = true)
    (hd_Road : PySem.W.hasDictIn K c_Road = true)
    (po_Road : PySem.W.plainOver K c_Road = true)
    (sa_Road : PySem.W.findIn K (.ref c_Road) "__setattr__" = some (some (.builtin "object.__setattr__")))
    (mi_Road : PySem.W.makesIn K c_Road = true)
    (kc_Road : PySem.W.keepIn K (.ref c_Road) = true)
    (na_Road_ways : PySem.W.findIn K (.ref c_Road) "ways" = some none)
    (na_Road_place : PySem.W.findIn K (.ref c_Road) "place" = some none)
    (na_Road_waiting : PySem.W.findIn K (.ref c_Road) "waiting" = some none)
    (nf_p_is_among : PySem.W.nsIn K mainGlobals "is_among" = some (some (.ref a_p_is_among)))
    (l_p_is_among : K.lookup a_p_is_among = some ⟨oc_p_is_among, od_p_is_among, .func (PySem.W.fnOf "is_among" "is_among" (defArgs st_p_is_among) (defBody st_p_is_among) (defScope st_p_is_among) .none kV_p_is_among dc_p_is_among pm_p_is_among an_p_is_among cd_p_is_among ct_p_is_among), sl_p_is_among⟩)
    (c_p_is_among : PySem.W.codeIn K cd_p_is_among "is_among" = true)
    (k_p_is_among : PySem.W.keepIn K (.ref a_p_is_among) = true)
    (nf_p_need_turn : PySem.W.nsIn K mainGlobals "need_turn" = some (some (.ref a_p_need_turn)))
    (l_p_need_turn : K.lookup a_p_need_turn = some ⟨oc_p_need_turn, od_p_need_turn, .func (PySem.W.fnOf "need_turn" "need_turn" (defArgs st_p_need_turn) (defBody st_p_need_turn) (defScope st_p_need_turn) .none kV_p_need_turn dc_p_need_turn pm_p_need_turn an_p_need_turn cd_p_need_turn ct_p_need_turn), sl_p_need_turn⟩)
    (c_p_need_turn : PySem.W.codeIn K cd_p_need_turn "need_turn" = true)
    (k_p_need_turn : PySem.W.keepIn K (.ref a_p_need_turn) = true)
    (nf_p_Road_init : PySem.W.findIn K (.ref c_Road) "__init__" = some (some (.ref a_p_Road_init)))
    (if_p_Road_init : PySem.W.isFn K (.ref a_p_Road_init) = true)
    (l_p_Road_init : K.lookup a_p_Road_init = some ⟨oc_p_Road_init, od_p_Road_init, .func (PySem.W.fnOf "__init__" "Road.__init__" (defArgs st_p_Road_init) (defBody st_p_Road_init) (defScope st_p_Road_init) .none kV_p_Road_init dc_p_Road_init pm_p_Road_init an_p_Road_init cd_p_Road_init ct_p_Road_init), sl_p_Road_init⟩)
    (c_p_Road_init : PySem.W.codeIn K cd_p_Road_init "Road.__init__" = true)
    (k_p_Road_init : PySem.W.keepIn K (.ref a_p_Road_init) = true)
    (nf_p_Road_next_way : PySem.W.findIn K (.ref c_Road) "next_way" = some (some (.ref a_p_Road_next_way)))
    (if_p_Road_next_way : PySem.W.isFn K (.ref a_p_Road_next_way) = true)
    (l_p_Road_next_way : K.lookup a_p_Road_next_way = some ⟨oc_p_Road_next_way, od_p_Road_next_way, .func (PySem.W.fnOf "next_way" "Road.next_way" (defArgs st_p_Road_next_way) (defBody st_p_Road_next_way) (defScope st_p_Road_next_way) .none kV_p_Road_next_way dc_p_Road_next_way pm_p_Road_next_way an_p_Road_next_way cd_p_Road_next_way ct_p_Road_next_way), sl_p_Road_next_way⟩)
    (c_p_Road_next_way : PySem.W.codeIn K cd_p_Road_next_way "Road.next_way" = true)
    (k_p_Road_next_way : PySem.W.keepIn K (.ref a_p_Road_next_way) = true)
    (nf_p_Road_send : PySem.W.findIn K (.ref c_Road) "send" = some (some (.ref a_p_Road_send)))
    (if_p_Road_send : PySem.W.isFn K (.ref a_p_Road_send) = true)
    (l_p_Road_send : K.lookup a_p_Road_send = some ⟨oc_p_Road_send, od_p_Road_send, .func (PySem.W.fnOf "send" "Road.send" (defArgs st_p_Road_send) (defBody st_p_Road_send) (defScope st_p_Road_send) .none kV_p_Road_send dc_p_Road_send pm_p_Road_send an_p_Road_send cd_p_Road_send ct_p_Road_send), sl_p_Road_send⟩)
    (c_p_Road_send : PySem.W.codeIn K cd_p_Road_send "Road.send" = true)
    (k_p_Road_send : PySem.W.keepIn K (.ref a_p_Road_send) = true)
    (nf_p_Road_due : PySem.W.findIn K (.ref c_Road) "due" = some (some (.ref a_p_Road_due)))
    (if_p_Road_due : PySem.W.isFn K (.ref a_p_Road_due) = true)
    (l_p_Road_due : K.lookup a_p_Road_due = some ⟨oc_p_Road_due, od_p_Road_due, .func (PySem.W.fnOf "due" "Road.due" (defArgs st_p_Road_due) (defBody st_p_Road_due) (defScope st_p_Road_due) .none kV_p_Road_due dc_p_Road_due pm_p_Road_due an_p_Road_due cd_p_Road_due ct_p_Road_due), sl_p_Road_due⟩)
    (c_p_Road_due : PySem.W.codeIn K cd_p_Road_due "Road.due" = true)
    (k_p_Road_due : PySem.W.keepIn K (.ref a_p_Road_due) = true)
    (nf_p_Road_many : PySem.W.findIn K (.ref c_Road) "many" = some (some (.ref a_p_Road_many)))
    (if_p_Road_many : PySem.W.isFn K (.ref a_p_Road_many) = true)
    (l_p_Road_many : K.lookup a_p_Road_many = some ⟨oc_p_Road_many, od_p_Road_many, .func (PySem.W.fnOf "many" "Road.many" (defArgs st_p_Road_many) (defBody st_p_Road_many) (defScope st_p_Road_many) .none kV_p_Road_many dc_p_Road_many pm_p_Road_many an_p_Road_many cd_p_Road_many ct_p_Road_many), sl_p_Road_many⟩)
    (c_p_Road_many : PySem.W.codeIn K cd_p_Road_many "Road.many" = true)
    (k_p_Road_many : PySem.W.keepIn K (.ref a_p_Road_many) = true)
    (nf_draw : PySem.W.nsIn K mainGlobals "_law_draw" = some (some (.ref a_draw)))
    (l_draw : K.lookup a_draw = some ⟨oc_draw, od_draw, .func (PySem.W.fnOf "_law_draw" "_law_draw" (defArgs st_draw) (defBody st_draw) (defScope st_draw) .none kV_draw dc_draw pm_draw an_draw cd_draw ct_draw), sl_draw⟩)
    (c_draw : PySem.W.codeIn K cd_draw "_law_draw" = true)
    (k_draw : PySem.W.keepIn K (.ref a_draw) = true)
    (nf_spread : PySem.W.nsIn K mainGlobals "_law_spread" = some (some (.ref a_spread)))
    (l_spread : K.lookup a_spread = some ⟨oc_spread, od_spread, .func (PySem.W.fnOf "_law_spread" "_law_spread" (defArgs st_spread) (defBody st_spread) (defScope st_spread) .none kV_spread dc_spread pm_spread an_spread cd_spread ct_spread), sl_spread⟩)
    (c_spread : PySem.W.codeIn K cd_spread "_law_spread" = true)
    (k_spread : PySem.W.keepIn K (.ref a_spread) = true)
    (nf_alone : PySem.W.nsIn K mainGlobals "_law_alone" = some (some (.ref a_alone)))
    (l_alone : K.lookup a_alone = some ⟨oc_alone, od_alone, .func (PySem.W.fnOf "_law_alone" "_law_alone" (defArgs st_alone) (defBody st_alone) (defScope st_alone) .none kV_alone dc_alone pm_alone an_alone cd_alone ct_alone), sl_alone⟩)
    (c_alone : PySem.W.codeIn K cd_alone "_law_alone" = true)
    (k_alone : PySem.W.keepIn K (.ref a_alone) = true)
    (nf_row : PySem.W.nsIn K mainGlobals "_law_row" = some (some (.ref a_row)))
    (l_row : K.lookup a_row = some ⟨oc_row, od_row, .func (PySem.W.fnOf "_law_row" "_law_row" (defArgs st_row) (defBody st_row) (defScope st_row) .none kV_row dc_row pm_row an_row cd_row ct_row), sl_row⟩)
    (c_row : PySem.W.codeIn K cd_row "_law_row" = true)
    (k_row : PySem.W.keepIn K (.ref a_row) = true)
    (nf_sent : PySem.W.nsIn K mainGlobals "_law_sent" = some (some (.ref a_sent)))
    (l_sent : K.lookup a_sent = some ⟨oc_sent, od_sent, .func (PySem.W.fnOf "_law_sent" "_law_sent" (defArgs st_sent) (defBody st_sent) (defScope st_sent) .none kV_sent dc_sent pm_sent an_sent cd_sent ct_sent), sl_sent⟩)
    (c_sent : PySem.W.codeIn K cd_sent "_law_sent" = true)
    (k_sent : PySem.W.keepIn K (.ref a_sent) = true)
    (nf_refused : PySem.W.nsIn K mainGlobals "_law_refused" = some (some (.ref a_refused)))
    (l_refused : K.lookup a_refused = some ⟨oc_refused, od_refused, .func (PySem.W.fnOf "_law_refused" "_law_refused" (defArgs st_refused) (defBody st_refused) (defScope st_refused) .none kV_refused dc_refused pm_refused an_refused cd_refused ct_refused), sl_refused⟩)
    (c_refused : PySem.W.codeIn K cd_refused "_law_refused" = true)
    (k_refused : PySem.W.keepIn K (.ref a_refused) = true)
    (nf_law : PySem.W.nsIn K mainGlobals "law" = some (some (.ref a_law)))
    (l_law : K.lookup a_law = some ⟨oc_law, od_law, .func (PySem.W.fnOf "law" "law" (defArgs st_law) (defBody st_law) (defScope st_law) .none kV_law dc_law pm_law an_law cd_law ct_law), sl_law⟩)
    (c_law : PySem.W.codeIn K cd_law "law" = true)
    (k_law : PySem.W.keepIn K (.ref a_law) = true)
    (i_BadTurn : PySem.W.isClsIn K c_BadTurn = true)
    (y_BadTurn : PySem.W.typeIn K (.ref c_BadTurn) = some (.type "type"))
    (i_HouseError : PySem.W.isClsIn K c_HouseError = true)
    (y_HouseError : PySem.W.typeIn K (.ref c_HouseError) = some (.type "type"))
    (s_BadTurn : PySem.W.subIn K (.ref c_BadTurn) (.ref c_BadTurn) = some true)
    (s_VE : PySem.W.subIn K (.ref c_BadTurn) (.type "ValueError") = some true)
    (s_HE : PySem.W.subIn K (.ref c_BadTurn) (.ref c_HouseError) = some true)
    (b_HE : PySem.W.subIn K (.ref c_HouseError) (.type "BaseException") = some true)
    (e1 : PySem.W.findIn K (.ref c_BadTurn) "__getattribute__" = some (some (.builtin "BaseException.__getattribute__")))
    (e2 : PySem.W.findIn K (.ref c_BadTurn) "__getattr__" = some none)
    (e4 : PySem.W.hasDictIn K c_BadTurn = true)
    (e5 : PySem.W.findIn K (.ref c_BadTurn) "__class__" = some (some (.builtin "object.__class__")))
    (e6 : PySem.W.specialIn K (.builtin "object.__class__") "__get__" = some (some (.builtin "getset_descriptor.__get__")))
    (e7 : PySem.W.takesIn K (.builtin "object.__class__") = some true)
    (e8 : PySem.W.mroIn K c_BadTurn (.type "object") = some true)
    (i_BadName : PySem.W.isClsIn K c_BadName = true)
    (y_BadName : PySem.W.typeIn K (.ref c_BadName) = some (.type "type"))
    (s_BadName : PySem.W.subIn K (.ref c_BadTurn) (.ref c_BadName) = some false)
    (i_BadRecord : PySem.W.isClsIn K c_BadRecord = true)
    (y_BadRecord : PySem.W.typeIn K (.ref c_BadRecord) = some (.type "type"))
    (s_BadRecord : PySem.W.subIn K (.ref c_BadTurn) (.ref c_BadRecord) = some false)
    (i_BadZone : PySem.W.isClsIn K c_BadZone = true)
    (y_BadZone : PySem.W.typeIn K (.ref c_BadZone) = some (.type "type"))
    (s_BadZone : PySem.W.subIn K (.ref c_BadTurn) (.ref c_BadZone) = some false)
    (i_BadChange : PySem.W.isClsIn K c_BadChange = true)
    (y_BadChange : PySem.W.typeIn K (.ref c_BadChange) = some (.type "type"))
    (s_BadChange : PySem.W.subIn K (.ref c_BadTurn) (.ref c_BadChange) = some false)
    (i_BadLetter : PySem.W.isClsIn K c_BadLetter = true)
    (y_BadLetter : PySem.W.typeIn K (.ref c_BadLetter) = some (.type "type"))
    (s_BadLetter : PySem.W.subIn K (.ref c_BadTurn) (.ref c_BadLetter) = some false)
    (i_BadRow : PySem.W.isClsIn K c_BadRow = true)
    (y_BadRow : PySem.W.typeIn K (.ref c_BadRow) = some (.type "type"))
    (s_BadRow : PySem.W.subIn K (.ref c_BadTurn) (.ref c_BadRow) = some false)
    (i_BadLine : PySem.W.isClsIn K c_BadLine = true)
    (y_BadLine : PySem.W.typeIn K (.ref c_BadLine) = some (.type "type"))
    (s_BadLine : PySem.W.subIn K (.ref c_BadTurn) (.ref c_BadLine) = some false) :
    ∃ fd : FuncData, (∀ (s : Shared) (u : Value), BindsTo s fd ⟨[u], []⟩ [("_law_script", u)]) ∧ ∀ base : Heap, K.In base → base.Ns mainGlobals mg → FnOk l.prog w K mg base (L2.CX l.prog w) 5 fa fd ["_law_script"] (spS K g_law) := by
  have e := hfa.symm.trans (PySem.W.mg_of X G nf_law)
  cases e
  have T : Txt K mg c_BadTurn c_Road c_BadName c_BadRecord c_BadZone c_BadChange c_BadLine c_BadRow c_BadLetter c_HouseError := { m_isinstance := PySem.W.mg_none_of X G n_isinstance, m_int := PySem.W.mg_none_of X G n_int, m_bool := PySem.W.mg_none_of X G n_bool, m_BadTurn := PySem.W.mg_of X G n_BadTurn, x_BadTurn := ⟨PySem.W.mg_of X G n_BadTurn, k_BadTurn, r1_BadTurn, r2_BadTurn, _, _, _, _, PySem.F.excBase_ValueError, x_BadTurn⟩, m_list := PySem.W.mg_none_of X G n_list, m_len := PySem.W.mg_none_of X G n_len, m_MOST_ROW := ⟨_, PySem.W.mg_of X G n_MOST_ROW⟩, m_all := PySem.W.mg_none_of X G n_all, m_MOST_WAY := ⟨_, PySem.W.mg_of X G n_MOST_WAY⟩, m_Road := PySem.W.mg_of X G n_Road, m_LOST := ⟨_, PySem.W.mg_of X G n_LOST⟩, m_ValueError := PySem.W.mg_none_of X G n_ValueError, m_BadName := PySem.W.mg_of X G n_BadName, m_BadRecord := PySem.W.mg_of X G n_BadRecord, m_BadZone := PySem.W.mg_of X G n_BadZone, m_BadChange := PySem.W.mg_of X G n_BadChange, m_BadLine := PySem.W.mg_of X G n_BadLine, m_BadRow := PySem.W.mg_of X G n_BadRow, m_BadLetter := PySem.W.mg_of X G n_BadLetter, m_range := PySem.W.mg_none_of X G n_range, m_HouseError := PySem.W.mg_of X G n_HouseError, m_max := PySem.W.mg_none_of X G n_max, cl_Road := ⟨pg_Road, hd_Road, po_Road, sa_Road⟩, na_Road_ways := na_Road_ways, na_Road_place := na_Road_place, na_Road_waiting := na_Road_waiting }
  have F : KF K c_BadTurn c_Road c_BadName c_BadRecord c_BadZone c_BadChange c_BadLine c_BadRow c_BadLetter c_HouseError := ⟨DL.kit_VE (by decide +kernel) s_VE, DL.kit_own i_BadTurn y_BadTurn s_BadTurn s_BadTurn, DL.exm_own b_HE i_HouseError y_HouseError s_HE, ⟨e1, e2, r1_BadTurn, e4, e5, e6, e7, e8⟩, DL.kit_own i_BadName y_BadName s_BadName s_BadTurn, DL.kit_own i_BadRecord y_BadRecord s_BadRecord s_BadTurn, DL.kit_own i_BadZone y_BadZone s_BadZone s_BadTurn, DL.kit_own i_BadChange y_BadChange s_BadChange s_BadTurn, DL.kit_own i_BadLetter y_BadLetter s_BadLetter s_BadTurn, DL.kit_own i_BadRow y_BadRow s_BadRow s_BadTurn, DL.kit_own i_BadLine y_BadLine s_BadLine s_BadTurn⟩
  have r_p_is_among : Raw K mg "is_among" st_p_is_among ps_p_is_among := raw_mk X G nf_p_is_among l_p_is_among c_p_is_among k_p_is_among fun _ _ _ _ _ _ us hl => match us, hl with | [_, _, _], _ => rfl
  have r_p_need_turn : Raw K mg "need_turn" st_p_need_turn ps_p_need_turn := raw_mk X G nf_p_need_turn l_p_need_turn c_p_need_turn k_p_need_turn fun _ _ _ _ _ _ us hl => match us, hl with | [_], _ => rfl
  have r_p_Road_init : RawI K mg "Road" c_Road "Road.__init__" st_p_Road_init ps_p_Road_init := rawi_mk X G n_Road mi_Road kc_Road nf_p_Road_init if_p_Road_init l_p_Road_init c_p_Road_init k_p_Road_init fun _ _ _ _ _ _ us hl => match us, hl with | [_, _], _ => rfl
  have r_p_Road_next_way : RawM K c_Road "next_way" "Road.next_way" st_p_Road_next_way ps_p_Road_next_way := rawm_mk ⟨pg_Road, hd_Road, po_Road, sa_Road⟩ nf_p_Road_next_way if_p_Road_next_way l_p_Road_next_way c_p_Road_next_way k_p_Road_next_way fun _ _ _ _ _ _ us hl => match us, hl with | [_], _ => rfl
  have r_p_Road_send : RawM K c_Road "send" "Road.send" st_p_Road_send ps_p_Road_send := rawm_mk ⟨pg_Road, hd_Road, po_Road, sa_Road⟩ nf_p_Road_send if_p_Road_send l_p_Road_send c_p_Road_send k_p_Road_send fun _ _ _ _ _ _ us hl => match us, hl with | [_, _, _], _ => rfl
  have r_p_Road_due : RawM K c_Road "due" "Road.due" st_p_Road_due ps_p_Road_due := rawm_mk ⟨pg_Road, hd_Road, po_Road, sa_Road⟩ nf_p_Road_due if_p_Road_due l_p_Road_due c_p_Road_due k_p_Road_due fun _ _ _ _ _ _ us hl => match us, hl with | [_, _], _ => rfl
  have r_p_Road_many : RawM K c_Road "many" "Road.many" st_p_Road_many ps_p_Road_many := rawm_mk ⟨pg_Road, hd_Road, po_Road, sa_Road⟩ nf_p_Road_many if_p_Road_many l_p_Road_many c_p_Road_many k_p_Road_many fun _ _ _ _ _ _ us hl => match us, hl with | [_], _ => rfl
  have r_draw : Raw K mg "_law_draw" st_draw ps_draw := raw_mk X G nf_draw l_draw c_draw k_draw fun _ _ _ _ _ _ us hl => match us, hl with | [_, _], _ => rfl
  have r_spread : Raw K mg "_law_spread" st_spread ps_spread := raw_mk X G nf_spread l_spread c_spread k_spread fun _ _ _ _ _ _ us hl => match us, hl with | [_, _], _ => rfl
  have r_alone : Raw K mg "_law_alone" st_alone ps_alone := raw_mk X G nf_alone l_alone c_alone k_alone fun _ _ _ _ _ _ us hl => match us, hl with | [_, _], _ => rfl
  have r_row : Raw K mg "_law_row" st_row ps_row := raw_mk X G nf_row l_row c_row k_row fun _ _ _ _ _ _ us hl => match us, hl with | [_], _ => rfl
  have r_sent : Raw K mg "_law_sent" st_sent ps_sent := raw_mk X G nf_sent l_sent c_sent k_sent fun _ _ _ _ _ _ us hl => match us, hl with | [_, _, _, _, _], _ => rfl
  have r_refused : Raw K mg "_law_refused" st_refused ps_refused := raw_mk X G nf_refused l_refused c_refused k_refused fun _ _ _ _ _ _ us hl => match us, hl with | [_], _ => rfl
  refine ⟨_, fun s u => .of_eq rfl, fun base _ _ => all_ok (P := l.prog) (wd := w) (base := base) T F r_p_is_among r_p_need_turn r_p_Road_init r_p_Road_next_way r_p_Road_send r_p_Road_due r_p_Road_many r_draw r_spread r_alone r_row r_sent r_refused (fun_mk (st := st_law) l_law c_law k_law)⟩
end DL.K21
open PySem PySem.W PyProof.Rows
set_option maxHeartbeats 0 in
theorem PySem.Challenge.cw_namehouse_k21_the_road_holds : PySem.Challenge.rw_namehouse_k21_the_road.Holds := by
  w_on; o_law; k_head; (case hw => w_witness2)
  k_fill
  refine L2.walk_of (l := PySem.Challenge.rw_namehouse_k21_the_road) (n := 63) (k := 5) (x := "_law_script") (CX := fun w => L2.CX PySem.Challenge.rw_namehouse_k21_the_road.prog w) (sp := fun w => DL.spS _ DL.K21.g_law) rfl (by decide) rfl ⟨rfl, by decide, by decide⟩ (fun w h Y => PySem.W.kIn_of Y) ?F (fun _ _ a ns hl _ hS => DL.law_entry hS fun P EP h => DL.K21.entry hl h) (fun _ _ _ _ _ h => DL.law_end h)
  case F =>
    intro w mg fa h KX G hmg
    refine' DL.K21.all_mk KX G hmg ?n_isinstance ?n_int ?n_bool ?n_BadTurn ?k_BadTurn ?r1_BadTurn ?r2_BadTurn ?x_BadTurn ?n_list ?n_len ?n_MOST_ROW ?n_all ?n_MOST_WAY ?n_Road ?n_LOST ?n_ValueError ?n_BadName ?n_BadRecord ?n_BadZone ?n_BadChange ?n_BadLine ?n_BadRow ?n_BadLetter ?n_range ?n_HouseError ?n_max ?pg_Road ?hd_Road ?po_Road ?sa_Road ?mi_Road ?kc_Road ?na_Road_ways ?na_Road_place ?na_Road_waiting ?nf_p_is_among ?l_p_is_among ?c_p_is_among ?k_p_is_among ?nf_p_need_turn ?l_p_need_turn ?c_p_need_turn ?k_p_need_turn ?nf_p_Road_init ?if_p_Road_init ?l_p_Road_init ?c_p_Road_init ?k_p_Road_init ?nf_p_Road_next_way ?if_p_Road_next_way ?l_p_Road_next_way ?c_p_Road_next_way ?k_p_Road_next_way ?nf_p_Road_send ?if_p_Road_send ?l_p_Road_send ?c_p_Road_send ?k_p_Road_send ?nf_p_Road_due ?if_p_Road_due ?l_p_Road_due ?c_p_Road_due ?k_p_Road_due ?nf_p_Road_many ?if_p_Road_many ?l_p_Road_many ?c_p_Road_many ?k_p_Road_many ?nf_draw ?l_draw ?c_draw ?k_draw ?nf_spread ?l_spread ?c_spread ?k_spread ?nf_alone ?l_alone ?c_alone ?k_alone ?nf_row ?l_row ?c_row ?k_row ?nf_sent ?l_sent ?c_sent ?k_sent ?nf_refused ?l_refused ?c_refused ?k_refused ?nf_law ?l_law ?c_law ?k_law ?i_BadTurn ?y_BadTurn ?i_HouseError ?y_HouseError ?s_BadTurn ?s_VE ?s_HE ?b_HE ?e1 ?e2 ?e4 ?e5 ?e6 ?e7 ?e8 ?i_BadName ?y_BadName ?s_BadName ?i_BadRecord ?y_BadRecord ?s_BadRecord ?i_BadZone ?y_BadZone ?s_BadZone ?i_BadChange ?y_BadChange ?s_BadChange ?i_BadLetter ?y_BadLetter ?s_BadLetter ?i_BadRow ?y_BadRow ?s_BadRow ?i_BadLine ?y_BadLine ?s_BadLine
    (case n_isinstance => k_is)
    (case n_int => k_is)
    (case n_bool => k_is)
    (case n_BadTurn => k_is)
    (case k_BadTurn => k_is)
    (case r1_BadTurn => k_is)
    (case r2_BadTurn => k_is)
    (case x_BadTurn => k_exc)
    (case n_list => k_is)
    (case n_len => k_is)
    (case n_MOST_ROW => k_is)
    (case n_all => k_is)
    (case n_MOST_WAY => k_is)
    (case n_Road => k_is)
    (case n_LOST => k_is)
    (case n_ValueError => k_is)
    (case n_BadName => k_is)
    (case n_BadRecord => k_is)
    (case n_BadZone => k_is)
    (case n_BadChange => k_is)
    (case n_BadLine => k_is)
    (case n_BadRow => k_is)
    (case n_BadLetter => k_is)
    (case n_range => k_is)
    (case n_HouseError => k_is)
    (case n_max => k_is)
    (case pg_Road => k_is)
    (case hd_Road => k_is)
    (case po_Road => k_is)
    (case sa_Road => k_is)
    (case mi_Road => k_is)
    (case kc_Road => k_is)
    (case na_Road_ways => k_is)
    (case na_Road_place => k_is)
    (case na_Road_waiting => k_is)
    (case nf_p_is_among => k_is)
    (case l_p_is_among => k_is)
    (case c_p_is_among => k_is)
    (case k_p_is_among => k_is)
    (case nf_p_need_turn => k_is)
    (case l_p_need_turn => k_is)
    (case c_p_need_turn => k_is)
    (case k_p_need_turn => k_is)
    (case nf_p_Road_init => k_is)
    (case if_p_Road_init => k_is)
    (case l_p_Road_init => k_is)
    (case c_p_Road_init => k_is)
    (case k_p_Road_init => k_is)
    (case nf_p_Road_next_way => k_is)
    (case if_p_Road_next_way => k_is)
    (case l_p_Road_next_way => k_is)
    (case c_p_Road_next_way => k_is)
    (case k_p_Road_next_way => k_is)
    (case nf_p_Road_send => k_is)
    (case if_p_Road_send => k_is)
    (case l_p_Road_send => k_is)
    (case c_p_Road_send => k_is)
    (case k_p_Road_send => k_is)
    (case nf_p_Road_due => k_is)
    (case if_p_Road_due => k_is)
    (case l_p_Road_due => k_is)
    (case c_p_Road_due => k_is)
    (case k_p_Road_due => k_is)
    (case nf_p_Road_many => k_is)
    (case if_p_Road_many => k_is)
    (case l_p_Road_many => k_is)
    (case c_p_Road_many => k_is)
    (case k_p_Road_many => k_is)
    (case nf_draw => k_is)
    (case l_draw => k_is)
    (case c_draw => k_is)
    (case k_draw => k_is)
    (case nf_spread => k_is)
    (case l_spread => k_is)
    (case c_spread => k_is)
    (case k_spread => k_is)
    (case nf_alone => k_is)
    (case l_alone => k_is)
    (case c_alone => k_is)
    (case k_alone => k_is)
    (case nf_row => k_is)
    (case l_row => k_is)
    (case c_row => k_is)
    (case k_row => k_is)
    (case nf_sent => k_is)
    (case l_sent => k_is)
    (case c_sent => k_is)
    (case k_sent => k_is)
    (case nf_refused => k_is)
    (case l_refused => k_is)
    (case c_refused => k_is)
    (case k_refused => k_is)
    (case nf_law => k_is)
    (case l_law => k_is)
    (case c_law => k_is)
    (case k_law => k_is)
    (case i_BadTurn => k_is)
    (case y_BadTurn => k_is)
    (case i_HouseError => k_is)
    (case y_HouseError => k_is)
    (case s_BadTurn => k_is)
    (case s_VE => k_is)
    (case s_HE => k_is)
    (case b_HE => k_is)
    (case e1 => k_is)
    (case e2 => k_is)
    (case e4 => k_is)
    (case e5 => k_is)
    (case e6 => k_is)
    (case e7 => k_is)
    (case e8 => k_is)
    (case i_BadName => k_is)
    (case y_BadName => k_is)
    (case s_BadName => k_is)
    (case i_BadRecord => k_is)
    (case y_BadRecord => k_is)
    (case s_BadRecord => k_is)
    (case i_BadZone => k_is)
    (case y_BadZone => k_is)
    (case s_BadZone => k_is)
    (case i_BadChange => k_is)
    (case y_BadChange => k_is)
    (case s_BadChange => k_is)
    (case i_BadLetter => k_is)
    (case y_BadLetter => k_is)
    (case s_BadLetter => k_is)
    (case i_BadRow => k_is)
    (case y_BadRow => k_is)
    (case s_BadRow => k_is)
    (case i_BadLine => k_is)
    (case y_BadLine => k_is)
    (case s_BadLine => k_is)
