import PyProof.Rows.All
import Wide.All
import OpenK.AllK
import Wide.FinOn
import Open.SpecLaws
import KE.OsGo
import HandS.Base
import HandS.Call
import HandS.List
import HandS.Dict
import HandS.Comp
import HandS.Words
import HandS.Exc
import HandS.ExcOwn
import HandS.ExcIs
import KE.KeyNested
import KE.KDictKeyed
import KE.DataEq
import HandS.TupAny
import HandS.WordsExc
import HandS.Text
import HandS.Rev
import HandS.TupLe
import HandS.IsInst
import HandS.TupMul
import HandS.Iter
import HandS.Codes
import HandS.Ends
import KE.SortKeyHeap
import HandS.SortKw
import HandS.More
import HandS.Style
import PyProof.Rows.ListMulArg
import KE.DataCmp
import KE.GoesMore
import HandS.SetTxt0
import HandS.SetFor
import PySem.Challenge.RW_namehouse_k03_records_and_their_order
set_option Elab.async false
set_option linter.all false
set_option maxRecDepth 100000
set_option maxHeartbeats 4000000
namespace DL
open PySem PySem.Spec PyProof.Rows L2

/-! ### data -/
inductive D where
  | non | bl (b : Bool) | int (i : Int) | str (s : Str) | tup (ds : List D) | lst (ds : List D) | edict | ref (n : Nat) | exc (c : Value) | val (v : V)
instance : Inhabited D := ⟨.non⟩
/-- what a slot or a field holds -/
inductive W where
  | d (x : D) | own (ds : List D)
/-- what stands in a cell -/
inductive O where
  | lst (ds : List D) | dct (nm : List Str) (ds : List D) | ins (C : Addr) (nm : List Str) (ws : List W) | kd (w : World) (kvs : List (D × D))
abbrev Sto := List O
abbrev Gm := List (Option W)
def slotAt : Gm → Nat → Option W
  | [], _ => none
  | x :: _, 0 => x
  | _ :: r, i + 1 => slotAt r i
def cellAt : Sto → Nat → Option O
  | [], _ => none
  | x :: _, 0 => some x
  | _ :: r, i + 1 => cellAt r i

/-- what is frozen, where the cells stand, how many -/
structure Fz where
  F : Hp
  ρ : Nat → Addr
  k : Nat
structure Fz.le (Z Z' : Fz) : Prop where
  f : ∀ a o, Z.F a = some o → Z'.F a = some o
  k : Z.k ≤ Z'.k
  r : ∀ n, n < Z.k → Z'.ρ n = Z.ρ n
theorem Fz.le.refl (Z : Fz) : Z.le Z := ⟨fun _ _ h => h, Nat.le_refl _, fun _ _ => rfl⟩
theorem Fz.le.trans {Z Z' Z'' : Fz} (a : Z.le Z') (b : Z'.le Z'') : Z.le Z'' :=
  ⟨fun x o h => b.f x o (a.f x o h), Nat.le_trans a.k b.k, fun n h => (b.r n (Nat.lt_of_lt_of_le h a.k)).trans (a.r n h)⟩

/-- an exception's object -/
def ExH (c : Value) (a : Addr) : HO := .ext fun h => ∃ (oe : Obj) (vs : Array Value), h.get? a = some oe ∧ Zc c none oe ∧ oe.data = .fields vs
/-- a value that needs no heap: a type, a class -/
def Flat : V → Prop
  | .ty _ => True
  | .ref _ => True
  | _ => False

theorem same_sqL {K : PySem.W.Frag} {H H' : Hp} {a : Addr} {xs : List V} (e : ∀ b o, H b = some o → H' b = some o) (h : SqL K H a xs) : SqL K H' a xs := by
  rcases h with (h | ⟨o, h⟩) | h
  · exact .inl (.inl (e _ _ h))
  · exact .inl (.inr ⟨o, e _ _ h⟩)
  · exact .inr h
theorem same_rd {H H' : Hp} {a : Addr} {u : HO} (e : ∀ b o, H b = some o → H' b = some o) (h : Rd H a u) : Rd H' a u := by
  rcases h with h | ⟨o, h⟩
  · exact .inl (e _ _ h)
  · exact .inr ⟨o, e _ _ h⟩
theorem same_sqT {K : PySem.W.Frag} {H H' : Hp} {a : Addr} {xs : List V} (e : ∀ b o, H b = some o → H' b = some o) (h : SqT K H a xs) : SqT K H' a xs := by
  rcases h with (h | ⟨o, h⟩) | h
  · exact .inl (.inl (e _ _ h))
  · exact .inl (.inr ⟨o, e _ _ h⟩)
  · exact .inr h

section
variable (K : PySem.W.Frag) (Z : Fz)
mutual
inductive DV : V → D → Prop
  | non : DV .non .non
  | bl (b : Bool) : DV (.bl b) (.bl b)
  | int (i : Int) : DV (.int i) (.int i)
  | str (s : Str) : DV (.str s) (.str s)
  | tup {a : Addr} {xs : List V} {ds : List D} : SqT K Z.F a xs → DVs xs ds → DV (.ref a) (.tup ds)
  | lst {a : Addr} {xs : List V} {ds : List D} : SqL K Z.F a xs → DVs xs ds → DV (.ref a) (.lst ds)
  | edict {a : Addr} : Z.F a = some (.dK []) → DV (.ref a) .edict
  | ref {n : Nat} : n < Z.k → DV (.ref (Z.ρ n)) (.ref n)
  | exc {a C : Addr} : Z.F a = some (ExH (.ref C) a) → ExcC K C → DV (.ref a) (.exc (.ref C))
  | val {v : V} : Flat v → DV v (.val v)
inductive DVs : List V → List D → Prop
  | nil : DVs [] []
  | cons {v : V} {vs : List V} {d : D} {ds : List D} : DV v d → DVs vs ds → DVs (v :: vs) (d :: ds)
end
end
mutual
theorem DV.mono {K : PySem.W.Frag} {Z Z' : Fz} (e : Z.le Z') : ∀ {v : V} {d : D}, DV K Z v d → DV K Z' v d
  | _, _, .non => .non
  | _, _, .bl b => .bl b
  | _, _, .int i => .int i
  | _, _, .str s => .str s
  | _, _, .tup h q => .tup (same_sqT e.f h) (DVs.mono e q)
  | _, _, .lst h q => .lst (same_sqL e.f h) (DVs.mono e q)
  | _, _, .edict h => .edict (e.f _ _ h)
  | _, _, .ref (n := n) h => by
    have r := e.r n h
    rw [← r]
    exact .ref (Nat.lt_of_lt_of_le h e.k)
  | _, _, .exc h k => .exc (e.f _ _ h) k
  | _, _, .val h => .val h
theorem DVs.mono {K : PySem.W.Frag} {Z Z' : Fz} (e : Z.le Z') : ∀ {vs : List V} {ds : List D}, DVs K Z vs ds → DVs K Z' vs ds
  | _, _, .nil => .nil
  | _, _, .cons h q => .cons (DV.mono e h) (DVs.mono e q)
end
section
variable {K : PySem.W.Frag} {Z Z' : Fz}
theorem DVs.length : ∀ {vs : List V} {ds : List D}, DVs K Z vs ds → vs.length = ds.length
  | _, _, .nil => rfl
  | _, _, .cons _ q => by rw [List.length_cons, List.length_cons, DVs.length q]
theorem DVs.append : ∀ {vs us : List V} {ds es : List D}, DVs K Z vs ds → DVs K Z us es → DVs K Z (vs ++ us) (ds ++ es)
  | _, _, _, _, .nil, r => r
  | _, _, _, _, .cons h q, r => .cons h (DVs.append q r)
theorem DVs.take : ∀ {vs : List V} {ds : List D} (n : Nat), DVs K Z vs ds → DVs K Z (vs.take n) (ds.take n)
  | _, _, 0, _ => .nil
  | _, _, _ + 1, .nil => .nil
  | _, _, n + 1, .cons h q => .cons h (DVs.take n q)
theorem DVs.drop : ∀ {vs : List V} {ds : List D} (n : Nat), DVs K Z vs ds → DVs K Z (vs.drop n) (ds.drop n)
  | _, _, 0, q => q
  | _, _, _ + 1, .nil => .nil
  | _, _, n + 1, .cons _ q => DVs.drop n q
theorem DVs.get : ∀ {vs : List V} {ds : List D} {i : Nat} {v : V}, DVs K Z vs ds → vs[i]? = some v → ∃ d, ds[i]? = some d ∧ DV K Z v d
  | _, _, _, _, .nil, e => by simp at e
  | _, _, 0, _, .cons h _, e => by simp at e; subst e; exact ⟨_, rfl, h⟩
  | _, _, i + 1, v, .cons _ q, e => by
    obtain ⟨d, h1, h2⟩ := DVs.get (i := i) (v := v) q (by simpa using e)
    exact ⟨d, by simpa using h1, h2⟩
theorem DVs.getD : ∀ {vs : List V} {ds : List D} {i : Nat} {d : D}, DVs K Z vs ds → ds[i]? = some d → ∃ v, vs[i]? = some v ∧ DV K Z v d
  | _, _, _, _, .nil, e => by simp at e
  | _, _, 0, _, .cons h _, e => by simp at e; subst e; exact ⟨_, rfl, h⟩
  | _, _, i + 1, v, .cons _ q, e => by
    obtain ⟨d, h1, h2⟩ := DVs.getD (i := i) (d := v) q (by simpa using e)
    exact ⟨d, by simpa using h1, h2⟩
theorem DVs.set : ∀ {vs : List V} {ds : List D} (i : Nat) {v : V} {d : D}, DVs K Z vs ds → DV K Z v d → DVs K Z (vs.set i v) (ds.set i d)
  | _, _, _, _, _, .nil, _ => .nil
  | _, _, 0, _, _, .cons _ q, r => .cons r q
  | _, _, i + 1, _, _, .cons h q, r => .cons h (DVs.set i q r)
theorem DVs.reverse : ∀ {vs : List V} {ds : List D}, DVs K Z vs ds → DVs K Z vs.reverse ds.reverse
  | _, _, .nil => .nil
  | _, _, .cons h q => by
    rw [List.reverse_cons, List.reverse_cons]
    exact DVs.append (DVs.reverse q) (.cons h .nil)
theorem DVs.replicate {v : V} {d : D} (h : DV K Z v d) : ∀ n, DVs K Z (List.replicate n v) (List.replicate n d)
  | 0 => .nil
  | n + 1 => .cons h (DVs.replicate h n)
theorem DVs.ints : ∀ ns : List Int, DVs K Z (ns.map V.int) (ns.map D.int)
  | [] => .nil
  | n :: ns => .cons (.int n) (DVs.ints ns)
theorem DVs.strs : ∀ ns : List Str, DVs K Z (ns.map V.str) (ns.map D.str)
  | [] => .nil
  | n :: ns => .cons (.str n) (DVs.strs ns)
theorem DVs.of_strs : ∀ {ns : List Str} {vs : List V}, DVs K Z vs (ns.map D.str) → vs = ns.map V.str
  | [], _, .nil => rfl
  | n :: ns, _, .cons h q => by
    cases h
    rw [DVs.of_strs q]
    rfl
theorem DVs.of_ints : ∀ {ns : List Int} {vs : List V}, DVs K Z vs (ns.map D.int) → vs = ns.map V.int
  | [], _, .nil => rfl
  | n :: ns, _, .cons h q => by
    cases h
    rw [DVs.of_ints q]
    rfl
theorem DVs.of_bls : ∀ {ns : List Bool} {vs : List V}, DVs K Z vs (ns.map D.bl) → vs = ns.map V.bl
  | [], _, .nil => rfl
  | n :: ns, _, .cons h q => by
    cases h
    rw [DVs.of_bls q]
    rfl
end

/-! ### dicts whose keys are data -/
mutual
def keyD : D → NestedKey
  | .int i => .num i
  | .str s => .text s
  | .tup ds => .tup (keyDs ds)
  | _ => .none
def keyDs : List D → List NestedKey
  | [] => []
  | d :: ds => keyD d :: keyDs ds
end
/-- at a stands a dict, its hashes by the world w -/
def KdO (w : World) (a : Addr) (kvs : List (NestedKey × Addr × V)) : HO := .ext fun h => kvs.length ≤ sizeLine ∧ (a == sysModules) = false ∧
  ∃ (xs : List (NestedKey × Addr × Value)) (o : Obj) (es : Array DictEntry) (ep : Nat), Paired (fun (p : NestedKey × Addr × V) (q : NestedKey × Addr × Value) => p.1 = q.1 ∧ p.2.1 = q.2.1 ∧ RelV p.2.2 q.2.2) kvs xs ∧
    h.get? a = some o ∧ o.ExactDict ∧ o.data = .dict es ep ∧ es.toList = xs.map (fun x => (⟨x.1.hash w, .ref x.2.1, x.2.2⟩ : DictEntry)) ∧ (xs.map (·.1)).Nodup

/-! ### slots, fields, cells -/
section
variable (K : PySem.W.Frag) (Z : Fz) (H : Hp)
inductive WR : V → W → List Addr → Prop
  | d {v : V} {x : D} : DV K Z v x → WR v (.d x) []
  | own {a : Addr} {xs : List V} {ds : List D} : H a = some (.lst xs) → DVs K Z xs ds → WR (.ref a) (.own ds) [a]
inductive FsR : List Str → List (Str × V) → List W → List Addr → Prop
  | nil : FsR [] [] [] []
  | cons {f : Str} {v : V} {w : W} {as bs : List Addr} {nm : List Str} {r : List (Str × V)} {r' : List W} : WR K Z H v w as → FsR nm r r' bs → FsR (f :: nm) ((f, v) :: r) (w :: r') (as ++ bs)
inductive KvR : List Str → List (Key × V) → List D → Prop
  | nil : KvR [] [] []
  | cons {k : Str} {v : V} {d : D} {nm : List Str} {r : List (Key × V)} {r' : List D} : DV K Z v d → KvR nm r r' → KvR (k :: nm) ((.inr k, v) :: r) (d :: r')
inductive KdR : List (NestedKey × Addr × V) → List (D × D) → Prop
  | nil : KdR [] []
  | cons {a : Addr} {v : V} {x y : D} {r : List (NestedKey × Addr × V)} {r' : List (D × D)} : DV K Z (.ref a) x → DV K Z v y → KdR r r' → KdR ((keyD x, a, v) :: r) ((x, y) :: r')
inductive OR : Addr → O → List Addr → Prop
  | kd {a : Addr} {w : World} {kvs : List (NestedKey × Addr × V)} {kds : List (D × D)} : H a = some (KdO w a kvs) → KdR K Z kvs kds → OR a (.kd w kds) [a]
  | lst {a : Addr} {xs : List V} {ds : List D} : H a = some (.lst xs) → DVs K Z xs ds → OR a (.lst ds) [a]
  | dct {a : Addr} {nm : List Str} {kvs : List (Key × V)} {ds : List D} : H a = some (.dK kvs) → KvR K Z nm kvs ds → OR a (.dct nm ds) [a]
  | ins {a C dx : Addr} {nm : List Str} {fs : List (Str × V)} {ws : List W} {as : List Addr} : H a = some (.ins C dx fs) → FsR K Z H nm fs ws as → OR a (.ins C nm ws) (a :: as)
inductive SR : Nat → Sto → List Addr → Prop
  | nil {i : Nat} : SR i [] []
  | cons {i : Nat} {o : O} {S : Sto} {as bs : List Addr} : OR K Z H (Z.ρ i) o as → SR (i + 1) S bs → SR i (o :: S) (as ++ bs)
inductive GR : L2.St → Gm → List Addr → Prop
  | nil : GR [] [] []
  | gn {v : Option V} {σ : L2.St} {Γ : Gm} {as : List Addr} : GR σ Γ as → GR (v :: σ) (none :: Γ) as
  | gs {v : V} {w : W} {σ : L2.St} {Γ : Gm} {as bs : List Addr} : WR K Z H v w as → GR σ Γ bs → GR (some v :: σ) (some w :: Γ) (as ++ bs)
end
section
variable {K : PySem.W.Frag} {Z Z' : Fz} {H H' : Hp}
/-- the owned ones are as they were -/
theorem WR.mono (e : Z.le Z') {v : V} {w : W} {as : List Addr} (k : ∀ a ∈ as, ∀ o, H a = some o → H' a = some o) : WR K Z H v w as → WR K Z' H' v w as
  | .d h => .d (h.mono e)
  | .own h q => .own (k _ (List.mem_singleton.mpr rfl) _ h) (q.mono e)
theorem FsR.mono (e : Z.le Z') : ∀ {nm : List Str} {fs : List (Str × V)} {fs' : List W} {as : List Addr}, (∀ a ∈ as, ∀ o, H a = some o → H' a = some o) → FsR K Z H nm fs fs' as → FsR K Z' H' nm fs fs' as
  | _, _, _, _, _, .nil => .nil
  | _, _, _, _, k, .cons h q => .cons (h.mono e fun a m => k a (List.mem_append_left _ m)) (FsR.mono e (fun a m => k a (List.mem_append_right _ m)) q)
theorem KvR.mono (e : Z.le Z') : ∀ {nm : List Str} {kvs : List (Key × V)} {kds : List D}, KvR K Z nm kvs kds → KvR K Z' nm kvs kds
  | _, _, _, .nil => .nil
  | _, _, _, .cons h q => .cons (h.mono e) (KvR.mono e q)
theorem KdR.mono (e : Z.le Z') : ∀ {kvs : List (NestedKey × Addr × V)} {kds : List (D × D)}, KdR K Z kvs kds → KdR K Z' kvs kds
  | _, _, .nil => .nil
  | _, _, .cons h q t => .cons (h.mono e) (q.mono e) (KdR.mono e t)
theorem OR.mono (e : Z.le Z') {a : Addr} {o : O} {as : List Addr} (k : ∀ a ∈ as, ∀ o, H a = some o → H' a = some o) : OR K Z H a o as → OR K Z' H' a o as
  | .kd h q => .kd (k _ (List.mem_singleton.mpr rfl) _ h) (q.mono e)
  | .lst h q => .lst (k _ (List.mem_singleton.mpr rfl) _ h) (q.mono e)
  | .dct h q => .dct (k _ (List.mem_singleton.mpr rfl) _ h) (q.mono e)
  | .ins h q => .ins (k _ List.mem_cons_self _ h) (q.mono e fun a m => k a (List.mem_cons_of_mem _ m))
theorem SR.mono (e : Z.le Z') : ∀ {i : Nat} {S : Sto} {as : List Addr}, i + S.length ≤ Z.k → (∀ a ∈ as, ∀ o, H a = some o → H' a = some o) → SR K Z H i S as → SR K Z' H' i S as
  | i, [], _, _, _, h => by
    cases h
    exact .nil
  | i, o :: S, _, l, k, h => by
    cases h with
    | cons h q =>
      rw [List.length_cons] at l
      have r := e.r i (by omega)
      refine .cons ?_ (SR.mono e (by omega) (fun a m => k a (List.mem_append_right _ m)) q)
      rw [r]
      exact h.mono e fun a m => k a (List.mem_append_left _ m)
theorem GR.mono (e : Z.le Z') : ∀ {σ : L2.St} {Γ : Gm} {as : List Addr}, (∀ a ∈ as, ∀ o, H a = some o → H' a = some o) → GR K Z H σ Γ as → GR K Z' H' σ Γ as
  | _, _, _, _, .nil => .nil
  | _, _, _, k, .gn q => .gn (GR.mono e k q)
  | _, _, _, k, .gs h q => .gs (h.mono e fun a m => k a (List.mem_append_left _ m)) (GR.mono e (fun a m => k a (List.mem_append_right _ m)) q)
theorem GR.length : ∀ {σ : L2.St} {Γ : Gm} {as : List Addr}, GR K Z H σ Γ as → σ.length = Γ.length
  | _, _, _, .nil => rfl
  | _, _, _, .gn q => by rw [List.length_cons, List.length_cons, GR.length q]
  | _, _, _, .gs _ q => by rw [List.length_cons, List.length_cons, GR.length q]
end

/-! ### the state -/
/-- what stood at the def's entry -/
structure Bs where
  Z : Fz
  H : Hp
  fp : List Addr
  Zf : Fz
structure Ext (B : Bs) (Z : Fz) (H : Hp) (own : List Addr) : Prop where
  le : B.Z.le Z
  fl : B.Zf.le Z
  keep : ∀ a o, B.H a = some o → a ∉ B.fp → H a = some o
  there : ∀ a, H a = none → B.H a = none
  new : ∀ a ∈ own, a ∈ B.fp ∨ B.H a = none
  frz : ∀ a, B.Z.F a = none → Z.F a ≠ none → B.H a = none ∨ a ∈ B.fp
structure R (K : PySem.W.Frag) (B : Bs) (Z : Fz) (S : Sto) (Γ : Gm) (σ : L2.St) (H : Hp) (fp ofp : List Addr) : Prop where
  kk : Z.k = S.length
  fr : ∀ a o, Z.F a = some o → H a = some o
  st : SR K Z H 0 S fp
  gm : GR K Z H σ Γ ofp
  nd : (fp ++ ofp).Nodup
  nf : ∀ a ∈ fp ++ ofp, Z.F a = none
  ext : Ext B Z H (fp ++ ofp)
  of : ∀ a ∈ ofp, B.H a = none

/-! ### what goes on behind: more is frozen, nothing but the cells changes -/
structure Up (Z : Fz) (H : Hp) (fp : List Addr) (Z' : Fz) (H' : Hp) (fp' : List Addr) : Prop where
  le : Z.le Z'
  keep : ∀ a o, H a = some o → a ∉ fp → H' a = some o
  new : ∀ a ∈ fp', a ∈ fp ∨ H a = none
  there : ∀ a, H' a = none → H a = none
  frz : ∀ a, Z.F a = none → Z'.F a ≠ none → H a = none ∨ a ∈ fp
theorem Up.refl (Z : Fz) (H : Hp) (fp : List Addr) : Up Z H fp Z H fp := ⟨.refl _, fun _ _ h _ => h, fun _ h => .inl h, fun _ h => h, fun _ h n => absurd h n⟩
theorem Up.trans {Z Z1 Z2 : Fz} {H H1 H2 : Hp} {fp fp1 fp2 : List Addr} (a : Up Z H fp Z1 H1 fp1) (b : Up Z1 H1 fp1 Z2 H2 fp2) : Up Z H fp Z2 H2 fp2 := by
  refine ⟨a.le.trans b.le, fun x o h n => b.keep x o (a.keep x o h n) fun m => ?_, fun x m => ?_, fun x h => a.there x (b.there x h), fun x h n => ?_⟩
  · rcases a.new x m with z | z
    · exact n z
    · rw [z] at h
      cases h
  · rcases b.new x m with z | z
    · exact a.new x z
    · exact .inr (a.there x z)
  · by_cases h1 : Z1.F x = none
    · rcases b.frz x h1 n with z | z
      · exact .inl (a.there x z)
      · exact (a.new x z).symm
    · exact a.frz x h h1

/-! ### readings -/
abbrev DE := Gm → Sto → (D → Sto → Prop) → Prop
abbrev DT := Gm → Sto → (Bool → Sto → Prop) → Prop
abbrev DA := Gm → Sto → (List D → Sto → Prop) → Prop
structure DEnds where
  nx : Gm → Sto → Prop
  rt : W → Sto → Prop
  bk : Gm → Sto → Prop := fun _ _ => False
  ct : Gm → Sto → Prop := fun _ _ => False
abbrev DS := DEnds → Gm → Sto → Prop

theorem DV.up {K : PySem.W.Frag} {Z Z' : Fz} {H H' : Hp} {fp fp' : List Addr} {v : V} {d : D} (h : DV K Z v d) (u : Up Z H fp Z' H' fp') : DV K Z' v d := h.mono u.le
theorem DVs.up {K : PySem.W.Frag} {Z Z' : Fz} {H H' : Hp} {fp fp' : List Addr} {v : List V} {d : List D} (h : DVs K Z v d) (u : Up Z H fp Z' H' fp') : DVs K Z' v d := h.mono u.le
/-- a value, or an owned list of a slot, read -/
def BV (K : PySem.W.Frag) (Z : Fz) (σ : L2.St) (Γ : Gm) (v : V) (d : D) : Prop :=
  DV K Z v d ∨ ∃ (i : Nat) (ds : List D), σ[i]? = some (some v) ∧ slotAt Γ i = some (.own ds) ∧ d = .lst ds
section
variable (K : PySem.W.Frag) (B : Bs)
def liftD (te : DE) : TE := fun σ H Q => ∃ Z S Γ fp ofp P, R K B Z S Γ σ H fp ofp ∧ te Γ S P ∧
  ∀ d S', P d S' → ∀ Z' H' fp' v, R K B Z' S' Γ σ H' fp' ofp → Up Z H fp Z' H' fp' → DV K Z' v d → Q v H'
def liftB (te : DE) : TE := fun σ H Q => ∃ Z S Γ fp ofp P, R K B Z S Γ σ H fp ofp ∧ te Γ S P ∧
  ∀ d S', P d S' → ∀ Z' H' fp' v, R K B Z' S' Γ σ H' fp' ofp → Up Z H fp Z' H' fp' → BV K Z' σ Γ v d → Q v H'
def liftO (te : DA) : TE := fun σ H Q => ∃ Z S Γ fp ofp P, R K B Z S Γ σ H fp ofp ∧ te Γ S P ∧
  ∀ ds S', P ds S' → ∀ Z' H' fp' a xs, R K B Z' S' Γ σ H' fp' ofp → Up Z H fp Z' H' fp' → H' a = some (.lst xs) → DVs K Z' xs ds → Z'.F a = none → a ∉ fp' → a ∉ ofp → H a = none → Q (.ref a) H'
def liftT (te : DT) : TT := fun σ H Q => ∃ Z S Γ fp ofp P, R K B Z S Γ σ H fp ofp ∧ te Γ S P ∧
  ∀ b S', P b S' → ∀ Z' H' fp', R K B Z' S' Γ σ H' fp' ofp → Up Z H fp Z' H' fp' → Q b H'
def liftA (te : DA) : TA := fun σ H Q => ∃ Z S Γ fp ofp P, R K B Z S Γ σ H fp ofp ∧ te Γ S P ∧
  ∀ ds S', P ds S' → ∀ Z' H' fp' vs, R K B Z' S' Γ σ H' fp' ofp → Up Z H fp Z' H' fp' → DVs K Z' vs ds → Q vs H'
/-- what is handed back -/
def WRet (Z : Fz) (H : Hp) (fp : List Addr) : V → W → Prop
  | v, .d x => DV K Z v x
  | v, .own ds => ∃ a xs, v = .ref a ∧ H a = some (.lst xs) ∧ DVs K Z xs ds ∧ Z.F a = none ∧ a ∉ fp ∧ B.H a = none
structure EndsOk (DD : DEnds) (Dn : Ends) : Prop where
  nx : ∀ Z S Γ σ H fp ofp, R K B Z S Γ σ H fp ofp → DD.nx Γ S → Dn.nx σ H
  bk : ∀ Z S Γ σ H fp ofp, R K B Z S Γ σ H fp ofp → DD.bk Γ S → Dn.bk σ H
  ct : ∀ Z S Γ σ H fp ofp, R K B Z S Γ σ H fp ofp → DD.ct Γ S → Dn.ct σ H
  rt : ∀ Z S Γ σ H fp ofp w v, R K B Z S Γ σ H fp ofp → WRet K B Z H fp v w → DD.rt w S → Dn.rt v H
def liftS (ts : DS) : TS := fun Dn σ H => ∃ Z S Γ fp ofp DD, R K B Z S Γ σ H fp ofp ∧ ts DD Γ S ∧ EndsOk K B DD Dn
end
/-- the same base, from later on -/
def Bs.at (B : Bs) (Z : Fz) : Bs := { B with Zf := Z }
structure Bs.up (B B' : Bs) : Prop where
  z : B'.Z = B.Z
  h : B'.H = B.H
  fp : B'.fp = B.fp
  le : B.Zf.le B'.Zf
theorem Bs.at_up {B : Bs} {Z : Fz} (l : B.Zf.le Z) : B.up (B.at Z) := ⟨rfl, rfl, rfl, l⟩
theorem R.lower {K : PySem.W.Frag} {B B' : Bs} {Z : Fz} {S : Sto} {Γ : Gm} {σ : L2.St} {H : Hp} {fp ofp : List Addr} (u : B.up B') (r : R K B' Z S Γ σ H fp ofp) : R K B Z S Γ σ H fp ofp := by
  obtain ⟨z, h, f, l⟩ := u
  obtain ⟨Z0, H0, fp0, Zf⟩ := B
  obtain ⟨Z0', H0', fp0', Zf'⟩ := B'
  dsimp only at z h f l
  subst z h f
  exact ⟨r.kk, r.fr, r.st, r.gm, r.nd, r.nf, ⟨r.ext.le, l.trans r.ext.fl, r.ext.keep, r.ext.there, r.ext.new, r.ext.frz⟩, r.of⟩
theorem R.raise {K : PySem.W.Frag} {B : Bs} {Z Z1 : Fz} {S : Sto} {Γ : Gm} {σ : L2.St} {H : Hp} {fp ofp : List Addr} (r : R K B Z S Γ σ H fp ofp) (l : Z1.le Z) : R K (B.at Z1) Z S Γ σ H fp ofp :=
  ⟨r.kk, r.fr, r.st, r.gm, r.nd, r.nf, ⟨r.ext.le, l, r.ext.keep, r.ext.there, r.ext.new, r.ext.frz⟩, r.of⟩

/-! ### judgements -/
theorem PE.weak {X : Cx} {e : Expr} {t t' : TE} (h : PE X e t) (k : ∀ σ H Q, t' σ H Q → t σ H Q) : PE X e t' := ⟨fun pins s σ H Q I q => h.run pins s σ H Q I (k _ _ _ q)⟩
theorem PT.weak {X : Cx} {e : Expr} {t t' : TT} (h : PT X e t) (k : ∀ σ H Q, t' σ H Q → t σ H Q) : PT X e t' := ⟨fun pins s σ H Q I q => h.run pins s σ H Q I (k _ _ _ q)⟩
theorem PA.weak {X : Cx} {es : List Expr} {t t' : TA} (h : PA X es t) (k : ∀ σ H Q, t' σ H Q → t σ H Q) : PA X es t' := ⟨fun pos pins s σ H Q I q => h.run pos pins s σ H Q I (k _ _ _ q)⟩
theorem PS.weak {X : Cx} {st : Stmt} {t t' : TS} (h : PS X st t) (k : ∀ D σ H, t' D σ H → t D σ H) : PS X st t' := ⟨fun pins s σ H D I q => h.run pins s σ H D I (k _ _ _ q)⟩
theorem PSs.weak {X : Cx} {st : List Stmt} {t t' : TS} (h : PSs X st t) (k : ∀ D σ H, t' D σ H → t D σ H) : PSs X st t' := ⟨fun pins s σ H D I q => h.run pins s σ H D I (k _ _ _ q)⟩
abbrev PD (X : Cx) (B : Bs) (e : Expr) (te : DE) : Prop := PE X e (liftD X.K B te)
abbrev PB (X : Cx) (B : Bs) (e : Expr) (te : DE) : Prop := PE X e (liftB X.K B te)
abbrev PF (X : Cx) (B : Bs) (e : Expr) (te : DA) : Prop := PE X e (liftO X.K B te)
abbrev PTD (X : Cx) (B : Bs) (e : Expr) (te : DT) : Prop := PT X e (liftT X.K B te)
abbrev PAD (X : Cx) (B : Bs) (es : List Expr) (te : DA) : Prop := PA X es (liftA X.K B te)
abbrev PSD (X : Cx) (B : Bs) (st : Stmt) (ts : DS) : Prop := PS X st (liftS X.K B ts)
abbrev PSsD (X : Cx) (B : Bs) (st : List Stmt) (ts : DS) : Prop := PSs X st (liftS X.K B ts)
end DL
namespace DL
open PySem PySem.Spec PyProof.Rows L2
section
variable {K : PySem.W.Frag} {Z Z' : Fz} {H H' : Hp}
/-! ### the owned ones stand -/
theorem WR.there {v : V} {w : W} {as : List Addr} : WR K Z H v w as → ∀ a ∈ as, ∃ o, H a = some o
  | .d _ => fun a m => by cases m
  | .own h _ => fun a m => by
    rw [List.mem_singleton.mp m]
    exact ⟨_, h⟩
theorem FsR.there : ∀ {nm : List Str} {fs : List (Str × V)} {fs' : List W} {as : List Addr}, FsR K Z H nm fs fs' as → ∀ a ∈ as, ∃ o, H a = some o
  | _, _, _, _, .nil => fun a m => by cases m
  | _, _, _, _, .cons h q => fun a m => (List.mem_append.mp m).elim (h.there a) (FsR.there q a)
theorem OR.there {a : Addr} {o : O} {as : List Addr} : OR K Z H a o as → ∀ a ∈ as, ∃ o, H a = some o
  | .lst h _ => fun a m => by
    rw [List.mem_singleton.mp m]
    exact ⟨_, h⟩
  | .dct h _ => fun a m => by
    rw [List.mem_singleton.mp m]
    exact ⟨_, h⟩
  | .kd h _ => fun a m => by
    rw [List.mem_singleton.mp m]
    exact ⟨_, h⟩
  | .ins h q => fun a m => (List.mem_cons.mp m).elim (fun e => e ▸ ⟨_, h⟩) (q.there a)
theorem SR.there : ∀ {i : Nat} {S : Sto} {as : List Addr}, SR K Z H i S as → ∀ a ∈ as, ∃ o, H a = some o
  | _, [], _, h => by
    cases h
    exact fun a m => by cases m
  | i, o :: S, _, h => by
    cases h with
    | cons h q => exact fun a m => (List.mem_append.mp m).elim (h.there a) (SR.there q a)
theorem GR.there : ∀ {σ : L2.St} {Γ : Gm} {as : List Addr}, GR K Z H σ Γ as → ∀ a ∈ as, ∃ o, H a = some o
  | _, _, _, .nil => fun a m => by cases m
  | _, _, _, .gn q => GR.there q
  | _, _, _, .gs h q => fun a m => (List.mem_append.mp m).elim (h.there a) (GR.there q a)
theorem GR.get : ∀ {σ : L2.St} {Γ : Gm} {as : List Addr} {i : Nat} {w : W}, GR K Z H σ Γ as → slotAt Γ i = some w → ∃ v bs, σ[i]? = some (some v) ∧ WR K Z H v w bs ∧ ∀ a ∈ bs, a ∈ as
  | _, _, _, _, _, .nil, e => by cases e
  | _, _, _, 0, _, .gn _, e => by cases e
  | _, _, _, i + 1, _, .gn q, e => by
    obtain ⟨v, bs, h1, h2, h3⟩ := GR.get (i := i) q e
    exact ⟨v, bs, by simpa using h1, h2, h3⟩
  | _, _, _, 0, _, .gs h _, e => by
    cases e
    exact ⟨_, _, rfl, h, fun a m => List.mem_append_left _ m⟩
  | _, _, _, i + 1, _, .gs _ q, e => by
    obtain ⟨v, bs, h1, h2, h3⟩ := GR.get (i := i) q e
    exact ⟨v, bs, by simpa using h1, h2, fun a m => List.mem_append_right _ (h3 a m)⟩
/-- a slot stored anew -/
theorem GR.set : ∀ {σ : L2.St} {Γ : Gm} {as bs : List Addr} {v : V} {w : W} (i : Nat), GR K Z H σ Γ as → WR K Z H v w bs →
    ∃ l m r, as = l ++ m ++ r ∧ ∃ cs, (cs = bs ∨ cs = []) ∧ GR K Z H (σ.set i (some v)) (Γ.set i (some w)) (l ++ cs ++ r)
  | _, _, _, _, _, _, _, .nil, _ => ⟨[], [], [], rfl, [], .inr rfl, .nil⟩
  | _, _, _, bs, _, _, 0, .gn q, h => ⟨[], [], _, by simp, bs, .inl rfl, .gs h q⟩
  | _, _, _, bs, _, _, 0, .gs _ q, h => ⟨[], _, _, by rw [List.nil_append], bs, .inl rfl, by rw [List.nil_append]; exact .gs h q⟩
  | _, _, _, _, _, _, i + 1, .gn q, h => by
    obtain ⟨l, m, r, e, cs, hc, g⟩ := GR.set i q h
    exact ⟨l, m, r, e, cs, hc, .gn g⟩
  | _, _, _, _, _, _, i + 1, .gs (as := as1) h1 q, h => by
    obtain ⟨l, m, r, e, cs, hc, g⟩ := GR.set i q h
    refine ⟨as1 ++ l, m, r, by rw [e]; simp [List.append_assoc], cs, hc, ?_⟩
    have g2 := GR.gs h1 g
    simpa [List.append_assoc] using g2
/-- a slot forgotten -/
theorem GR.del : ∀ {σ : L2.St} {Γ : Gm} {as : List Addr} (i : Nat) (v : Option V), GR K Z H σ Γ as →
    ∃ l m r, as = l ++ m ++ r ∧ GR K Z H (σ.set i v) (Γ.set i none) (l ++ r)
  | _, _, _, _, _, .nil => ⟨[], [], [], rfl, .nil⟩
  | _, _, _, 0, _, .gn q => ⟨[], [], _, by simp, .gn q⟩
  | _, _, _, 0, _, .gs _ q => ⟨[], _, _, by rw [List.nil_append], .gn q⟩
  | _, _, _, i + 1, v, .gn q => by
    obtain ⟨l, m, r, e, g⟩ := GR.del i v q
    exact ⟨l, m, r, e, .gn g⟩
  | _, _, _, i + 1, v, .gs (as := as1) h1 q => by
    obtain ⟨l, m, r, e, g⟩ := GR.del i v q
    refine ⟨as1 ++ l, m, r, by rw [e]; simp [List.append_assoc], ?_⟩
    have g2 := GR.gs h1 g
    simpa [List.append_assoc] using g2
end

section
variable {K : PySem.W.Frag} {B : Bs} {Z Z' : Fz} {S : Sto} {Γ : Gm} {σ : L2.St} {H H' : Hp} {fp ofp : List Addr}
theorem R.ownThere (r : R K B Z S Γ σ H fp ofp) : ∀ a ∈ fp ++ ofp, ∃ o, H a = some o := fun a m => (List.mem_append.mp m).elim (r.st.there a) (r.gm.there a)
theorem R.fresh (r : R K B Z S Γ σ H fp ofp) {p : Addr} (h : H p = none) : p ∉ fp ∧ p ∉ ofp ∧ Z.F p = none ∧ B.H p = none := by
  have q : p ∉ fp ++ ofp := fun m => by
    obtain ⟨o, e⟩ := r.ownThere p m
    rw [h] at e
    cases e
  refine ⟨fun m => q (List.mem_append_left _ m), fun m => q (List.mem_append_right _ m), ?_, r.ext.there p h⟩
  cases e : Z.F p with
  | none => rfl
  | some o =>
    rw [r.fr p o e] at h
    cases h
theorem le_frz {a : Addr} {o : HO} (h : Z.F a = none) : Z.le { Z with F := upd Z.F a o } := ⟨fun b u e => by
  show upd Z.F a o b = some u
  rw [upd_ne (ne_of_none e h)]
  exact e, Nat.le_refl _, fun _ _ => rfl⟩
/-- what stands and isn't owned is frozen -/
theorem R.freeze (r : R K B Z S Γ σ H fp ofp) {a : Addr} {o : HO} (h : H a = some o) (hf : Z.F a = none) (h1 : a ∉ fp) (h2 : a ∉ ofp) (hb : B.H a = none) :
    R K B { Z with F := upd Z.F a o } S Γ σ H fp ofp := by
  have le := le_frz (o := o) hf
  refine ⟨r.kk, fun b u e => ?_, r.st.mono le (by have := r.kk; omega) fun _ _ _ e => e, r.gm.mono le fun _ _ _ e => e, r.nd, fun b m => ?_, ⟨r.ext.le.trans le, r.ext.fl.trans le, r.ext.keep, r.ext.there, r.ext.new, fun b q n => ?_⟩, r.of⟩
  · have e' : upd Z.F a o b = some u := e
    by_cases hb : b = a
    · subst hb
      rw [upd_same] at e'
      cases e'
      exact h
    · rw [upd_ne hb] at e'
      exact r.fr b u e'
  · have nb : b ≠ a := fun z => by
      subst z
      exact (List.mem_append.mp m).elim h1 h2
    show upd Z.F a o b = none
    rw [upd_ne nb]
    exact r.nf b m
  · by_cases e : b = a
    · subst e
      exact .inl hb
    · refine r.ext.frz b q fun z => n ?_
      show upd Z.F a o b = none
      rw [upd_ne e]
      exact z
/-- the heap has one thing more, or one that isn't owned is another -/
theorem R.grow (r : R K B Z S Γ σ H fp ofp) {p : Addr} {o : HO} (h : H p = none) : R K B Z S Γ σ (upd H p o) fp ofp := by
  obtain ⟨q1, q2, q3, q4⟩ := r.fresh h
  have ks : ∀ a u, H a = some u → upd H p o a = some u := fun a u e => by
    rw [upd_ne (ne_of_none e h)]
    exact e
  refine ⟨r.kk, fun b u e => ks _ _ (r.fr b u e), r.st.mono (Fz.le.refl _) (by have := r.kk; omega) fun a _ u e => ks a u e, r.gm.mono (Fz.le.refl _) fun a _ u e => ks a u e, r.nd, r.nf,
    ⟨r.ext.le, r.ext.fl, fun a u e n => ks _ _ (r.ext.keep a u e n), fun a e => ?_, r.ext.new, r.ext.frz⟩, r.of⟩
  by_cases z : a = p
  · rw [z]
    exact q4
  · rw [upd_ne z] at e
    exact r.ext.there a e
theorem R.growF (r : R K B Z S Γ σ H fp ofp) {p : Addr} {o : HO} (h : H p = none) : R K B { Z with F := upd Z.F p o } S Γ σ (upd H p o) fp ofp := by
  obtain ⟨q1, q2, q3, q4⟩ := r.fresh h
  exact (r.grow h).freeze upd_same q3 q1 q2 q4
theorem R.leF (r : R K B Z S Γ σ H fp ofp) {p : Addr} {o : HO} (h : H p = none) : Z.le { Z with F := upd Z.F p o } := le_frz (r.fresh h).2.2.1
theorem Up.grow {p : Addr} {o : HO} (h : H p = none) : Up Z H fp Z (upd H p o) fp := ⟨.refl _, fun a u e _ => by
  rw [upd_ne (ne_of_none e h)]
  exact e, fun _ m => .inl m, fun a e => by
  by_cases z : a = p
  · rw [z]
    exact h
  · rw [upd_ne z] at e
    exact e, fun _ h n => absurd h n⟩
/-- .. and frozen -/
theorem Up.addF {Z1 : Fz} {H1 : Hp} {fp1 : List Addr} {p : Addr} {o : HO} (u : Up Z H fp Z1 H1 fp1) (h : H p = none) (hf : Z1.F p = none) : Up Z H fp { Z1 with F := upd Z1.F p o } H1 fp1 := ⟨u.le.trans (le_frz hf), u.keep, u.new, u.there, fun a e n => by
  by_cases z : a = p
  · rw [z]
    exact .inl h
  · refine u.frz a e fun q => n ?_
    show upd Z1.F p o a = none
    rw [upd_ne z]
    exact q⟩
theorem R.upF (r : R K B Z S Γ σ H fp ofp) {p : Addr} {o : HO} (h : H p = none) : Up Z H fp { Z with F := upd Z.F p o } (upd H p o) fp := (Up.grow h).addF h (r.fresh h).2.2.1
theorem R.up0 (r : R K B Z S Γ σ H fp ofp) {p : Addr} {o : HO} (h : H p = none) : Up Z H fp Z (upd H p o) fp := Up.grow h
theorem nodup_mid {l m r fp : List Addr} (h : (fp ++ (l ++ m ++ r)).Nodup) : (fp ++ (l ++ r)).Nodup := by
  refine h.sublist ?_
  refine (List.Sublist.refl fp).append ?_
  rw [List.append_assoc]
  exact (List.Sublist.refl l).append (List.sublist_append_right m r)
theorem nodup_mid1 {l m r fp : List Addr} {a : Addr} (h : (fp ++ (l ++ m ++ r)).Nodup) (h1 : a ∉ fp) (h2 : a ∉ l ++ m ++ r) : (fp ++ (l ++ [a] ++ r)).Nodup := by
  have h0 := nodup_mid h
  have ha : a ∉ fp ++ (l ++ r) := fun z => by
    rcases List.mem_append.mp z with z | z
    · exact h1 z
    · refine h2 ?_
      rcases List.mem_append.mp z with z | z
      · exact List.mem_append_left _ (List.mem_append_left _ z)
      · exact List.mem_append_right _ z
  have p : (fp ++ (l ++ [a] ++ r)).Perm (a :: (fp ++ (l ++ r))) := by
    have e1 : fp ++ (l ++ [a] ++ r) = (fp ++ l) ++ a :: r := by simp [List.append_assoc]
    have e2 : fp ++ (l ++ r) = (fp ++ l) ++ r := by simp [List.append_assoc]
    rw [e1, e2]
    exact List.perm_middle
  exact (p.nodup_iff).mpr (List.nodup_cons.mpr ⟨ha, h0⟩)
theorem R.setD (r : R K B Z S Γ σ H fp ofp) (i : Nat) {v : V} {x : D} (h : DV K Z v x) : ∃ ofp', R K B Z S (Γ.set i (some (.d x))) (σ.set i (some v)) H fp ofp' ∧ ∀ a ∈ ofp', a ∈ ofp := by
  obtain ⟨l, m, rr, e, cs, hc, g⟩ := r.gm.set i (WR.d (H := H) h)
  have hc' : cs = [] := hc.elim id id
  subst hc'
  subst e
  rw [List.append_nil] at g
  have sub : ∀ a, a ∈ fp ++ (l ++ rr) → a ∈ fp ++ (l ++ m ++ rr) := fun a z => by
    simp only [List.mem_append] at z ⊢
    rcases z with z | z | z
    · exact .inl z
    · exact .inr (.inl (.inl z))
    · exact .inr (.inr z)
  have sub2 : ∀ a, a ∈ l ++ rr → a ∈ l ++ m ++ rr := fun a z => by
    simp only [List.mem_append] at z ⊢
    rcases z with z | z
    · exact .inl (.inl z)
    · exact .inr z
  exact ⟨l ++ rr, ⟨r.kk, r.fr, r.st, g, nodup_mid r.nd, fun a z => r.nf a (sub a z), ⟨r.ext.le, r.ext.fl, r.ext.keep, r.ext.there, fun a z => r.ext.new a (sub a z), r.ext.frz⟩, fun a z => r.of a (sub2 a z)⟩, sub2⟩
theorem R.setO (r : R K B Z S Γ σ H fp ofp) (i : Nat) {a : Addr} {xs : List V} {ds : List D} (h : H a = some (.lst xs)) (q : DVs K Z xs ds) (hf : Z.F a = none) (h1 : a ∉ fp) (h2 : a ∉ ofp) (hb : B.H a = none) :
    ∃ ofp', R K B Z S (Γ.set i (some (.own ds))) (σ.set i (some (.ref a))) H fp ofp' := by
  obtain ⟨l, m, rr, e, cs, hc, g⟩ := r.gm.set i (WR.own h q)
  subst e
  have sub : ∀ b, b ∈ fp ++ (l ++ cs ++ rr) → b = a ∨ b ∈ fp ++ (l ++ m ++ rr) := fun b z => by
    simp only [List.mem_append] at z ⊢
    rcases z with z | (z | z) | z
    · exact .inr (.inl z)
    · exact .inr (.inr (.inl (.inl z)))
    · rcases hc with hc | hc
      · rw [hc] at z
        exact .inl (List.mem_singleton.mp z)
      · rw [hc] at z
        cases z
    · exact .inr (.inr (.inr z))
  refine ⟨l ++ cs ++ rr, ⟨r.kk, r.fr, r.st, g, ?_, fun b z => ?_, ⟨r.ext.le, r.ext.fl, r.ext.keep, r.ext.there, fun b z => ?_, r.ext.frz⟩, fun b z => ?_⟩⟩
  · rcases hc with hc | hc
    · rw [hc]
      exact nodup_mid1 r.nd h1 h2
    · rw [hc, List.append_nil]
      exact nodup_mid r.nd
  · rcases sub b z with z | z
    · rw [z]
      exact hf
    · exact r.nf b z
  · rcases sub b z with z | z
    · rw [z]
      exact .inr hb
    · exact r.ext.new b z
  · simp only [List.mem_append] at z
    rcases z with (z | z) | z
    · exact r.of b (List.mem_append_left _ (List.mem_append_left _ z))
    · rcases hc with hc | hc
      · rw [hc] at z
        rw [List.mem_singleton.mp z]
        exact hb
      · rw [hc] at z
        cases z
    · exact r.of b (List.mem_append_right _ z)
/-- a slot forgotten -/
theorem R.del (r : R K B Z S Γ σ H fp ofp) (i : Nat) (v : Option V) : ∃ ofp', R K B Z S (Γ.set i none) (σ.set i v) H fp ofp' ∧ ∀ a ∈ ofp', a ∈ ofp := by
  obtain ⟨l, m, rr, e, g⟩ := r.gm.del i v
  subst e
  have sub : ∀ a, a ∈ fp ++ (l ++ rr) → a ∈ fp ++ (l ++ m ++ rr) := fun a z => by
    simp only [List.mem_append] at z ⊢
    rcases z with z | z | z
    · exact .inl z
    · exact .inr (.inl (.inl z))
    · exact .inr (.inr z)
  have sub2 : ∀ a, a ∈ l ++ rr → a ∈ l ++ m ++ rr := fun a z => by
    simp only [List.mem_append] at z ⊢
    rcases z with z | z
    · exact .inl (.inl z)
    · exact .inr z
  exact ⟨l ++ rr, ⟨r.kk, r.fr, r.st, g, nodup_mid r.nd, fun a z => r.nf a (sub a z), ⟨r.ext.le, r.ext.fl, r.ext.keep, r.ext.there, fun a z => r.ext.new a (sub a z), r.ext.frz⟩, fun a z => r.of a (sub2 a z)⟩, sub2⟩
theorem BV.list (r : R K B Z S Γ σ H fp ofp) {v : V} {ds : List D} (h : BV K Z σ Γ v (.lst ds)) : ∃ a xs, v = .ref a ∧ SqL K H a xs ∧ DVs K Z xs ds := by
  rcases h with h | ⟨i, es, h1, h2, h3⟩
  · cases h with
    | lst h q => exact ⟨_, _, rfl, same_sqL r.fr h, q⟩
  · cases h3
    obtain ⟨u, bs, e, w, _⟩ := r.gm.get h2
    rw [h1] at e
    cases e
    cases w with
    | own h q => exact ⟨_, _, rfl, SqL.of h, q⟩
theorem BV.dv {v : V} {d : D} (h : BV K Z σ Γ v d) (n : ∀ ds, d ≠ .lst ds) : DV K Z v d := by
  rcases h with h | ⟨i, es, _, _, h3⟩
  · exact h
  · exact absurd h3 (n es)
theorem BV.tup (r : R K B Z S Γ σ H fp ofp) {v : V} {ds : List D} (h : BV K Z σ Γ v (.tup ds)) : ∃ a xs, v = .ref a ∧ SqT K Z.F a xs ∧ SqT K H a xs ∧ DVs K Z xs ds := by
  have h' := h.dv (fun _ z => nomatch z)
  cases h' with
  | tup h1 q => exact ⟨_, _, rfl, h1, same_sqT r.fr h1, q⟩
theorem BV.mono (e : Z.le Z') {v : V} {d : D} (h : BV K Z σ Γ v d) : BV K Z' σ Γ v d := h.elim (fun h => .inl (h.mono e)) .inr
theorem BV.up {fp' : List Addr} {v : V} {d : D} (h : BV K Z σ Γ v d) (u : Up Z H fp Z' H' fp') : BV K Z' σ Γ v d := h.mono u.le
end
section
variable {K : PySem.W.Frag} {B : Bs} {Z Z' : Fz} {S : Sto} {Γ : Gm} {σ : L2.St} {H H' : Hp} {fp ofp : List Addr}
theorem SR.get : ∀ {i n : Nat} {S : Sto} {fp : List Addr} {o : O}, SR K Z H i S fp → cellAt S n = some o → ∃ l as r, fp = l ++ as ++ r ∧ OR K Z H (Z.ρ (i + n)) o as ∧
    ∀ (Z' : Fz) (H' : Hp) (o' : O) (as' : List Addr), Z.le Z' → i + S.length ≤ Z.k → (∀ a ∈ l, ∀ u, H a = some u → H' a = some u) → (∀ a ∈ r, ∀ u, H a = some u → H' a = some u) → OR K Z' H' (Z.ρ (i + n)) o' as' → SR K Z' H' i (S.set n o') (l ++ as' ++ r)
  | i, n, [], _, _, h, e => by cases e
  | i, 0, o :: S, _, _, h, e => by
    cases e
    cases h with
    | cons h1 h2 =>
      rename_i as bs
      refine ⟨[], as, bs, rfl, h1, fun Z' H' o' as' le hk hl hr h' => ?_⟩
      rw [List.length_cons] at hk
      have e1 := le.r i (by omega)
      have h3 : OR K Z' H' (Z'.ρ i) o' as' := by
        rw [e1]
        exact h'
      exact .cons h3 (h2.mono le (by omega) hr)
  | i, n + 1, o :: S, _, _, h, e => by
    cases h with
    | cons h1 h2 =>
      rename_i as bs
      obtain ⟨l, as2, r, e1, h3, k⟩ := SR.get (i := i + 1) (n := n) h2 e
      subst e1
      have ei : i + 1 + n = i + (n + 1) := by omega
      refine ⟨as ++ l, as2, r, by simp [List.append_assoc], by rw [← ei]; exact h3, fun Z' H' o' as' le hk hl hr h' => ?_⟩
      rw [List.length_cons] at hk
      have e2 := le.r i (by omega)
      have h4 := k Z' H' o' as' le (by omega) (fun a m => hl a (List.mem_append_right _ m)) hr (by rw [ei]; exact h')
      have h5 : OR K Z' H' (Z'.ρ i) o as := by
        rw [e2]
        exact h1.mono le fun a m => hl a (List.mem_append_left _ m)
      have h6 := SR.cons h5 h4
      have e3 : as ++ l ++ as' ++ r = as ++ (l ++ as' ++ r) := by simp [List.append_assoc]
      rw [e3]
      exact h6
theorem R.cell (r : R K B Z S Γ σ H fp ofp) {n : Nat} {o : O} (e : cellAt S n = some o) : ∃ as, OR K Z H (Z.ρ n) o as ∧ ∀ a ∈ as, a ∈ fp := by
  obtain ⟨l, as, rr, e1, h, _⟩ := r.st.get e
  rw [Nat.zero_add] at h
  exact ⟨as, h, fun a m => by rw [e1]; exact List.mem_append_left _ (List.mem_append_right _ m)⟩
theorem cell_lt : ∀ {S : Sto} {n : Nat} {o : O}, cellAt S n = some o → n < S.length
  | [], _, _, e => by cases e
  | _ :: _, 0, _, _ => Nat.succ_pos _
  | _ :: S, n + 1, _, e => Nat.succ_lt_succ (cell_lt (S := S) e)
/-- an operand: a value, a list of a slot's own, or a cell's list -/
def BQ (K : PySem.W.Frag) (Z : Fz) (S : Sto) (σ : L2.St) (Γ : Gm) (v : V) (d : D) : Prop := BV K Z σ Γ v d ∨ ∃ (m : Nat) (ds : List D), v = .ref (Z.ρ m) ∧ d = .lst ds ∧ cellAt S m = some (.lst ds)
theorem BV.q {v : V} {d : D} (h : BV K Z σ Γ v d) : BQ K Z S σ Γ v d := .inl h
/-- a cell's list in the place of the cell -/
def der (S : Sto) (x : D) : D := match x with
  | .ref m => (match cellAt S m with
    | some (.lst ds) => .lst ds
    | _ => .ref m)
  | x => x
theorem BV.der {v : V} {d : D} (h : BV K Z σ Γ v d) : BQ K Z S σ Γ v (DL.der S d) := by
  unfold DL.der
  split
  · rename_i m
    split
    · rename_i ds e
      have h' := h.dv (fun _ z => nomatch z)
      cases h' with
      | ref hn => exact .inr ⟨m, ds, rfl, rfl, e⟩
    · exact .inl h
  · exact .inl h
theorem BQ.list (r : R K B Z S Γ σ H fp ofp) {v : V} {ds : List D} (h : BQ K Z S σ Γ v (.lst ds)) : ∃ a xs, v = .ref a ∧ SqL K H a xs ∧ DVs K Z xs ds := by
  rcases h with h | ⟨m, es, e1, e2, e3⟩
  · exact h.list r
  · cases e2
    obtain ⟨as, oc, _⟩ := r.cell e3
    cases oc with
    | lst h1 h2 => exact ⟨_, _, e1, SqL.of h1, h2⟩
theorem BQ.dv {v : V} {d : D} (h : BQ K Z S σ Γ v d) (n : ∀ ds, d ≠ .lst ds) : DV K Z v d := by
  rcases h with h | ⟨m, es, e1, e2, e3⟩
  · exact h.dv n
  · exact absurd e2 (n es)
theorem BQ.tup (r : R K B Z S Γ σ H fp ofp) {v : V} {ds : List D} (h : BQ K Z S σ Γ v (.tup ds)) : ∃ a xs, v = .ref a ∧ SqT K Z.F a xs ∧ SqT K H a xs ∧ DVs K Z xs ds := by
  rcases h with h | ⟨m, es, e1, e2, e3⟩
  · exact h.tup r
  · cases e2
end
end DL
namespace DL
open PySem PySem.Spec PyProof.Rows L2
section
variable {X : Cx} {B : Bs} {a b c e : Expr} {ta tb tc te : DE} {pos : Pos}

/-! ### names, constants -/
def dVar (i : Nat) : DE := fun Γ S Q => match slotAt Γ i with
  | some (.d x) => Q x S
  | _ => False
def dVarB (i : Nat) : DE := fun Γ S Q => match slotAt Γ i with
  | some (.d x) => Q x S
  | some (.own ds) => Q (.lst ds) S
  | none => False
def dC (x : D) : DE := fun _ S Q => Q x S
theorem pd_var (i : Nat) {x : Str} (hN : X.N[i]? = some x := by rfl) (hv : Vis X.env.scope x := by first | exact Or.inl rfl | exact Or.inr (Or.inl rfl) | exact Or.inr (Or.inr rfl)) (hd : (x == ("__debug__" : Str)) = false := by decide)
    (hcd : (x == ("__classdict__" : Str)) = false := by decide) : PD X B (.Name x pos) (dVar i) := PE.weak (pe_var hN hv hd hcd) fun σ H Q h => by
  obtain ⟨Z, S, Γ, fp, ofp, P, r, h, q⟩ := h
  unfold dVar at h
  split at h
  · rename_i x0 e0
    obtain ⟨v, bs, e1, w, _⟩ := r.gm.get e0
    cases w with
    | d dv => exact ⟨v, e1, q _ _ h Z H fp v r (.refl _ _ _) dv⟩
  · exact h.elim
theorem pb_var (i : Nat) {x : Str} (hN : X.N[i]? = some x := by rfl) (hv : Vis X.env.scope x := by first | exact Or.inl rfl | exact Or.inr (Or.inl rfl) | exact Or.inr (Or.inr rfl)) (hd : (x == ("__debug__" : Str)) = false := by decide)
    (hcd : (x == ("__classdict__" : Str)) = false := by decide) : PB X B (.Name x pos) (dVarB i) := PE.weak (pe_var hN hv hd hcd) fun σ H Q h => by
  obtain ⟨Z, S, Γ, fp, ofp, P, r, h, q⟩ := h
  unfold dVarB at h
  split at h
  · rename_i x0 e0
    obtain ⟨v, bs, e1, w, _⟩ := r.gm.get e0
    cases w with
    | d dv => exact ⟨v, e1, q _ _ h Z H fp v r (.refl _ _ _) (.inl dv)⟩
  · rename_i ds e0
    obtain ⟨v, bs, e1, w, _⟩ := r.gm.get e0
    exact ⟨v, e1, q _ _ h Z H fp v r (.refl _ _ _) (.inr ⟨i, ds, e1, e0, rfl⟩)⟩
  · exact h.elim
/-- a read of what is handed on is a read -/
theorem pb_of (h : PD X B e te) : PB X B e te := PE.weak h fun σ H Q h => by
  obtain ⟨Z, S, Γ, fp, ofp, P, r, h, q⟩ := h
  exact ⟨Z, S, Γ, fp, ofp, P, r, h, fun d S' p Z' H' fp' v r' l dv => q d S' p Z' H' fp' v r' l (.inl dv)⟩
theorem pd_c {x : D} {v : V} (h : PE X e (tC v)) (k : ∀ Z, DV X.K Z v x) : PD X B e (dC x) := PE.weak h fun σ H Q h => by
  obtain ⟨Z, S, Γ, fp, ofp, P, r, h, q⟩ := h
  exact q _ _ h Z H fp v r (.refl _ _ _) (k Z)
theorem pd_int {i j} : PD X B (.Constant (.int i) j pos) (dC (.int i)) := pd_c pe_int fun _ => .int i
theorem pd_bl {b j} : PD X B (.Constant (.bool b) j pos) (dC (.bl b)) := pd_c pe_bl fun _ => .bl b
theorem pd_non {j} : PD X B (.Constant .none j pos) (dC .non) := pd_c pe_non fun _ => .non
theorem pd_str {x j} : PD X B (.Constant (.str x) j pos) (dC (.str x)) := pd_c pe_str fun _ => .str x
/-- a module's constant: an int, a text -/
theorem pd_gint {x : Str} {i : Int} {t : Tok} (hg : Gl X x) (hm : X.mg x = some (.int i t)) (hd : (x == ("__debug__" : Str)) = false := by decide) : PD X B (.Name x pos) (dC (.int i)) := pd_c (pe_glob (v := .int i) hg hm ⟨_, rfl⟩ hd) fun _ => .int i
theorem pd_gstr {x y : Str} {t : Tok} (hg : Gl X x) (hm : X.mg x = some (.str y t)) (hd : (x == ("__debug__" : Str)) = false := by decide) : PD X B (.Name x pos) (dC (.str y)) := pd_c (pe_glob (v := .str y) hg hm ⟨_, rfl⟩ hd) fun _ => .str y
/-- a tuple of the module -/
structure KTup (K : PySem.W.Frag) (a : Addr) (ds : List D) : Prop where
  ex : ∃ xs : List V, (∀ Z, DVs K Z xs ds) ∧ ∃ (o : Obj) (its : Array Value) (n : Nat), K.lookup a = some o ∧ o.cls = .type "tuple" ∧ o.data = .seq its n ∧ its.size ≤ sizeLine ∧ Vals xs its.toList
theorem pd_gtup {x : Str} {p : Addr} {ds : List D} (hg : Gl X x) (hm : X.mg x = some (.ref p)) (k : KTup X.K p ds) (hd : (x == ("__debug__" : Str)) = false := by decide) : PD X B (.Name x pos) (dC (.tup ds)) := pd_c (pe_glob (v := .ref p) hg hm rfl hd) fun Z => by
  obtain ⟨xs, h1, h2⟩ := k.ex
  exact .tup (.inr h2) (h1 Z)
/-- a class, a type as a value -/
theorem pd_gcls {x : Str} {p : Addr} (hg : Gl X x) (hm : X.mg x = some (.ref p)) (hd : (x == ("__debug__" : Str)) = false := by decide) : PD X B (.Name x pos) (dC (.val (.ref p))) := pd_c (pe_glob (v := .ref p) hg hm rfl hd) fun Z => .val trivial
theorem pd_ty {x : Str} {n : String} (hg : Gl X x) (hm : X.mg x = none) (hv : bootBuiltins x = some (.type n)) (hn : x ≠ "__name__" := by decide) (hd : (x == ("__debug__" : Str)) = false := by decide) : PD X B (.Name x pos) (dC (.val (.ty n))) :=
  pd_c (pe_bltn (v := .ty n) hg hm hv rfl hn hd) fun Z => .val trivial

/-! ### operators -/
def dOp (f : D → D → (D → Prop) → Prop) (ta tb : DE) : DE := fun Γ S Q => ta Γ S fun x S1 => tb Γ S1 fun y S2 => f (der S2 x) (der S2 y) fun z => Q z S2
/-- what a rule by values does on data -/
def OpD (X : Cx) (B : Bs) (r : R2) (f : D → D → (D → Prop) → Prop) : Prop :=
  ∀ {Z : Fz} {S : Sto} {Γ : Gm} {σ : L2.St} {H : Hp} {fp ofp : List Addr} {x y : D} {vx vy : V} {Q : VK} {P : D → Prop}, R X.K B Z S Γ σ H fp ofp → BQ X.K Z S σ Γ vx x → BQ X.K Z S σ Γ vy y → f x y P →
    (∀ z, P z → ∀ Z' H' v, R X.K B Z' S Γ σ H' fp ofp → Up Z H fp Z' H' fp → DV X.K Z' v z → Q v H') → r vx vy H Q
theorem opd_run {r : R2} {f : D → D → (D → Prop) → Prop} (hd : OpD X B r f) {σ : L2.St} {H : Hp} {Q : VK} (h : liftD X.K B (dOp f ta tb) σ H Q) : tOp r (liftB X.K B ta) (liftB X.K B tb) σ H Q := by
  obtain ⟨Z, S, Γ, fp, ofp, P, r0, h, q⟩ := h
  refine ⟨Z, S, Γ, fp, ofp, _, r0, h, fun x S1 h1 Z1 H1 fp1 vx r1 l1 b1 => ?_⟩
  refine ⟨Z1, S1, Γ, fp1, ofp, _, r1, h1, fun y S2 h2 Z2 H2 fp2 vy r2 l2 b2 => ?_⟩
  exact hd r2 (b1.up l2).der b2.der h2 fun z pz Z3 H3 v r3 l3 dv => q z S2 pz Z3 H3 fp2 v r3 ((l1.trans l2).trans l3) dv
theorem pd_op {op : Operator} {r : R2} {f : D → D → (D → Prop) → Prop} (o : OpR X (binaryOp op) r ∧ OpD X B r f) (ha : PB X B a ta) (hb : PB X B b tb) : PD X B (.BinOp a op b pos) (dOp f ta tb) :=
  PE.weak (pe_op o.1 ha hb) fun σ H Q h => opd_run o.2 h
theorem pd_cmp {op : CmpOp} {r : R2} {f : D → D → (D → Prop) → Prop} (o : OpR X (compareOp op) r ∧ OpD X B r f) (ha : PB X B a ta) (hb : PB X B b tb) (hm : behindInMarks op b = false := by rfl) : PD X B (.Compare a [op] [b] pos) (dOp f ta tb) :=
  PE.weak (pe_cmpR o.1 ha hb hm) fun σ H Q h => opd_run o.2 h
/-- a < b < c -/
def dChain (f g : D → D → (D → Prop) → Prop) (ta tb tc : DE) : DE := fun Γ S Q => ta Γ S fun x S1 => tb Γ S1 fun y S2 => f (der S2 x) (der S2 y) fun z => match z with
  | .bl k => (k = true → tc Γ S2 fun w S3 => g (der S3 y) (der S3 w) fun z' => Q z' S3) ∧ (k = false → Q (.bl false) S2)
  | _ => False
theorem pd_chain {op op' : CmpOp} {r r' : R2} {f g : D → D → (D → Prop) → Prop} (o : OpR X (compareOp op) r ∧ OpD X B r f) (o' : OpR X (compareOp op') r' ∧ OpD X B r' g) (ha : PB X B a ta) (hb : PB X B b tb) (hc : PB X B c tc) (hm : lastMarks [op, op'] [b, c] = false := by rfl) :
    PD X B (.Compare a [op, op'] [b, c] pos) (dChain f g ta tb tc) := PE.weak (pe_chain o.1 o'.1 ha hb hc hm) fun σ H Q h => by
  obtain ⟨Z, S, Γ, fp, ofp, P, r0, h, q⟩ := h
  refine ⟨Z, S, Γ, fp, ofp, _, r0, h, fun x S1 h1 Z1 H1 fp1 vx r1 l1 b1 => ?_⟩
  refine ⟨Z1, S1, Γ, fp1, ofp, _, r1, h1, fun y S2 h2 Z2 H2 fp2 vy r2 l2 b2 => ?_⟩
  refine o.2 r2 (b1.up l2).der b2.der h2 fun z pz Z3 H3 v r3 l3 dv => ?_
  cases z with
  | bl k =>
    cases dv
    refine ⟨k, rfl, ?_⟩
    cases k with
    | true =>
      refine iteT ?_
      refine ⟨Z3, S2, Γ, fp2, ofp, _, r3, pz.1 rfl, fun w S4 h4 Z4 H4 fp4 vw r4 l4 b4 => ?_⟩
      exact o'.2 r4 ((b2.up l3).up l4).der b4.der h4 fun z' pz' Z5 H5 v5 r5 l5 dv5 => q z' S4 pz' Z5 H5 fp4 v5 r5 ((((l1.trans l2).trans l3).trans l4).trans l5) dv5
    | false =>
      refine iteF ?_
      exact q _ S2 (pz.2 rfl) Z3 H3 fp2 _ r3 ((l1.trans l2).trans l3) (.bl false)
  | _ => exact False.elim pz

/-! ### truth values -/
def dAnd (ta tb : DE) : DE := fun Γ S Q => ta Γ S fun x S1 => match x with
  | .bl k => (k = true → tb Γ S1 Q) ∧ (k = false → Q (.bl false) S1)
  | _ => False
def dOr (ta tb : DE) : DE := fun Γ S Q => ta Γ S fun x S1 => match x with
  | .bl k => (k = true → Q (.bl true) S1) ∧ (k = false → tb Γ S1 Q)
  | _ => False
def dNot (ta : DE) : DE := fun Γ S Q => ta Γ S fun x S1 => match x with
  | .bl k => Q (.bl (!k)) S1
  | _ => False
variable {rest : List Expr}
theorem pd_one {op} (h : PD X B a te) : PD X B (.BoolOp op [a] pos) te := pe_one h
theorem pd_and (ha : PD X B a ta) (hb : PD X B (.BoolOp .And (b :: rest) pos) tb) : PD X B (.BoolOp .And (a :: b :: rest) pos) (dAnd ta tb) := PE.weak (pe_and ha hb) fun σ H Q h => by
  obtain ⟨Z, S, Γ, fp, ofp, P, r0, h, q⟩ := h
  refine ⟨Z, S, Γ, fp, ofp, _, r0, h, fun x S1 h1 Z1 H1 fp1 vx r1 l1 b1 => ?_⟩
  cases x with
  | bl k =>
    cases b1
    refine ⟨k, rfl, ?_⟩
    cases k with
    | true => exact iteT ⟨Z1, S1, Γ, fp1, ofp, P, r1, h1.1 rfl, fun d S' p Z' H' fp' v r' l dv => q d S' p Z' H' fp' v r' (l1.trans l) dv⟩
    | false => exact iteF (q _ S1 (h1.2 rfl) Z1 H1 fp1 _ r1 l1 (.bl false))
  | _ => exact False.elim h1
theorem pd_or (ha : PD X B a ta) (hb : PD X B (.BoolOp .Or (b :: rest) pos) tb) : PD X B (.BoolOp .Or (a :: b :: rest) pos) (dOr ta tb) := PE.weak (pe_or ha hb) fun σ H Q h => by
  obtain ⟨Z, S, Γ, fp, ofp, P, r0, h, q⟩ := h
  refine ⟨Z, S, Γ, fp, ofp, _, r0, h, fun x S1 h1 Z1 H1 fp1 vx r1 l1 b1 => ?_⟩
  cases x with
  | bl k =>
    cases b1
    refine ⟨k, rfl, ?_⟩
    cases k with
    | false => exact iteF ⟨Z1, S1, Γ, fp1, ofp, P, r1, h1.2 rfl, fun d S' p Z' H' fp' v r' l dv => q d S' p Z' H' fp' v r' (l1.trans l) dv⟩
    | true => exact iteT (q _ S1 (h1.1 rfl) Z1 H1 fp1 _ r1 l1 (.bl true))
  | _ => exact False.elim h1
theorem pd_not (ha : PD X B a ta) : PD X B (.UnaryOp .Not a pos) (dNot ta) := PE.weak (pe_not ha) fun σ H Q h => by
  obtain ⟨Z, S, Γ, fp, ofp, P, r0, h, q⟩ := h
  refine ⟨Z, S, Γ, fp, ofp, _, r0, h, fun x S1 h1 Z1 H1 fp1 vx r1 l1 b1 => ?_⟩
  cases x with
  | bl k =>
    cases b1
    exact ⟨k, rfl, q _ S1 h1 Z1 H1 fp1 _ r1 l1 (.bl _)⟩
  | _ => exact False.elim h1

/-! ### tests -/
def dT (te : DE) : DT := fun Γ S Q => te Γ S fun x S1 => match x with
  | .bl k => Q k S1
  | _ => False
def dTAnd (t u : DT) : DT := fun Γ S Q => t Γ S fun c S1 => (c = true → u Γ S1 Q) ∧ (c = false → Q false S1)
def dTOr (t u : DT) : DT := fun Γ S Q => t Γ S fun c S1 => (c = true → Q true S1) ∧ (c = false → u Γ S1 Q)
def dTNot (t : DT) : DT := fun Γ S Q => t Γ S fun c S1 => Q (!c) S1
variable {tt tu : DT}
theorem pt_d (h : PD X B e te) (he : ∀ whole, isTrue e X.env whole = (do let v ← whole; standAt e.pos; holding [v] (truthy v)) := by intro _; rfl) : PTD X B e (dT te) := PT.weak (pt_val h he) fun σ H Q h => by
  obtain ⟨Z, S, Γ, fp, ofp, P, r0, h, q⟩ := h
  refine ⟨Z, S, Γ, fp, ofp, _, r0, h, fun x S1 h1 Z1 H1 fp1 vx r1 l1 b1 => ?_⟩
  cases x with
  | bl k =>
    cases b1
    exact ⟨k, rfl, q _ S1 h1 Z1 H1 fp1 r1 l1⟩
  | _ => exact False.elim h1
theorem pt_dcmp {op : CmpOp} {r : R2} {f : D → D → (D → Prop) → Prop} (o : OpR X (compareOp op) r ∧ OpD X B r f) (ha : PB X B a ta) (hb : PB X B b tb) (hm : behindInMarks op b = false := by rfl) : PTD X B (.Compare a [op] [b] pos) (dT (dOp f ta tb)) :=
  PT.weak (pt_cmpR o.1 ha hb hm) fun σ H Q h => by
  obtain ⟨Z, S, Γ, fp, ofp, P, r0, h, q⟩ := h
  refine opd_run o.2 (ta := ta) (tb := tb) ⟨Z, S, Γ, fp, ofp, _, r0, h, fun x S1 h1 Z1 H1 fp1 vx r1 l1 b1 => ?_⟩
  cases x with
  | bl k =>
    cases b1
    exact ⟨k, rfl, q _ S1 h1 Z1 H1 fp1 r1 l1⟩
  | _ => exact False.elim h1
theorem pt_dchain {op op' : CmpOp} {r r' : R2} {f g : D → D → (D → Prop) → Prop} (o : OpR X (compareOp op) r ∧ OpD X B r f) (o' : OpR X (compareOp op') r' ∧ OpD X B r' g) (ha : PB X B a ta) (hb : PB X B b tb) (hc : PB X B c tc) (hm : lastMarks [op, op'] [b, c] = false := by rfl) :
    PTD X B (.Compare a [op, op'] [b, c] pos) (dT (dChain f g ta tb tc)) := PT.weak (pt_chain o.1 o'.1 ha hb hc hm) fun σ H Q h => by
  obtain ⟨Z, S, Γ, fp, ofp, P, r0, h, q⟩ := h
  refine ⟨Z, S, Γ, fp, ofp, _, r0, h, fun x S1 h1 Z1 H1 fp1 vx r1 l1 b1 => ?_⟩
  refine ⟨Z1, S1, Γ, fp1, ofp, _, r1, h1, fun y S2 h2 Z2 H2 fp2 vy r2 l2 b2 => ?_⟩
  refine o.2 r2 (b1.up l2).der b2.der h2 fun z pz Z3 H3 v r3 l3 dv => ?_
  cases z with
  | bl k =>
    cases dv
    refine ⟨k, rfl, ?_⟩
    cases k with
    | true =>
      refine iteT ?_
      refine ⟨Z3, S2, Γ, fp2, ofp, _, r3, pz.1 rfl, fun w S4 h4 Z4 H4 fp4 vw r4 l4 b4 => ?_⟩
      refine o'.2 r4 ((b2.up l3).up l4).der b4.der h4 fun z' pz' Z5 H5 v5 r5 l5 dv5 => ?_
      cases z' with
      | bl k' =>
        cases dv5
        exact ⟨k', rfl, q _ S4 pz' Z5 H5 fp4 r5 ((((l1.trans l2).trans l3).trans l4).trans l5)⟩
      | _ => exact False.elim pz'
    | false =>
      refine iteF ?_
      exact ⟨false, rfl, q _ S2 (pz.2 rfl) Z3 H3 fp2 r3 ((l1.trans l2).trans l3)⟩
  | _ => exact False.elim pz
theorem pw_d1 {op} (h : PTD X B a tt) : op = .And ∨ op = .Or → PW X (.BoolOp op [a] pos) (liftT X.K B tt) := fun q => by
  rcases q with rfl | rfl
  · exact pw_and1 h
  · exact pw_or1 h
theorem PW.weak {e : Expr} {t t' : TT} (h : PW X e t) (k : ∀ σ H Q, t' σ H Q → t σ H Q) : PW X e t' := ⟨fun wh pins s σ H Q I q => h.run wh pins s σ H Q I (k _ _ _ q)⟩
abbrev PWD (X : Cx) (B : Bs) (e : Expr) (t : DT) : Prop := PW X e (liftT X.K B t)
theorem pw_dand (ha : PTD X B a tt) (hb : PWD X B (.BoolOp .And (b :: rest) pos) tu) : PWD X B (.BoolOp .And (a :: b :: rest) pos) (dTAnd tt tu) := PW.weak (pw_and ha hb) fun σ H Q h => by
  obtain ⟨Z, S, Γ, fp, ofp, P, r0, h, q⟩ := h
  refine ⟨Z, S, Γ, fp, ofp, _, r0, h, fun k S1 h1 Z1 H1 fp1 r1 l1 => ?_⟩
  cases k with
  | true => exact iteT ⟨Z1, S1, Γ, fp1, ofp, P, r1, h1.1 rfl, fun d S' p Z' H' fp' r' l => q d S' p Z' H' fp' r' (l1.trans l)⟩
  | false => exact iteF (q _ S1 (h1.2 rfl) Z1 H1 fp1 r1 l1)
theorem pw_dor (ha : PTD X B a tt) (hb : PWD X B (.BoolOp .Or (b :: rest) pos) tu) : PWD X B (.BoolOp .Or (a :: b :: rest) pos) (dTOr tt tu) := PW.weak (pw_or ha hb) fun σ H Q h => by
  obtain ⟨Z, S, Γ, fp, ofp, P, r0, h, q⟩ := h
  refine ⟨Z, S, Γ, fp, ofp, _, r0, h, fun k S1 h1 Z1 H1 fp1 r1 l1 => ?_⟩
  cases k with
  | false => exact iteF ⟨Z1, S1, Γ, fp1, ofp, P, r1, h1.2 rfl, fun d S' p Z' H' fp' r' l => q d S' p Z' H' fp' r' (l1.trans l)⟩
  | true => exact iteT (q _ S1 (h1.1 rfl) Z1 H1 fp1 r1 l1)
theorem pw_dand1 (h : PTD X B a tt) : PWD X B (.BoolOp .And [a] pos) tt := pw_and1 h
theorem pw_dor1 (h : PTD X B a tt) : PWD X B (.BoolOp .Or [a] pos) tt := pw_or1 h
theorem pt_dnot (ha : PTD X B a tt) : PTD X B (.UnaryOp .Not a pos) (dTNot tt) := PT.weak (L2.pt_not ha) fun σ H Q h => by
  obtain ⟨Z, S, Γ, fp, ofp, P, r0, h, q⟩ := h
  exact ⟨Z, S, Γ, fp, ofp, _, r0, h, fun k S1 h1 Z1 H1 fp1 r1 l1 => q _ S1 h1 Z1 H1 fp1 r1 l1⟩
def dIf (t : DT) (ta tb : DE) : DE := fun Γ S Q => t Γ S fun c S1 => (c = true → ta Γ S1 Q) ∧ (c = false → tb Γ S1 Q)
theorem pd_ifExp (hc : PTD X B c tt) (ha : PD X B a ta) (hb : PD X B b tb) : PD X B (.IfExp c a b pos) (dIf tt ta tb) := PE.weak (pe_ifExp hc ha hb) fun σ H Q h => by
  obtain ⟨Z, S, Γ, fp, ofp, P, r0, h, q⟩ := h
  refine ⟨Z, S, Γ, fp, ofp, _, r0, h, fun k S1 h1 Z1 H1 fp1 r1 l1 => ?_⟩
  cases k with
  | true => exact iteT ⟨Z1, S1, Γ, fp1, ofp, P, r1, h1.1 rfl, fun d S' p Z' H' fp' v r' l dv => q d S' p Z' H' fp' v r' (l1.trans l) dv⟩
  | false => exact iteF ⟨Z1, S1, Γ, fp1, ofp, P, r1, h1.2 rfl, fun d S' p Z' H' fp' v r' l dv => q d S' p Z' H' fp' v r' (l1.trans l) dv⟩

/-! ### argument lists, displays -/
def dNil : DA := fun _ S Q => Q [] S
def dCons (ta : DE) (tr : DA) : DA := fun Γ S Q => ta Γ S fun x S1 => tr Γ S1 fun xs S2 => Q (x :: xs) S2
variable {es : List Expr} {tr : DA}
theorem pa_dnil : PAD X B [] dNil := PA.weak pa_nil fun σ H Q h => by
  obtain ⟨Z, S, Γ, fp, ofp, P, r0, h, q⟩ := h
  exact q _ _ h Z H fp [] r0 (.refl _ _ _) .nil
theorem pa_dcons (ha : PD X B a ta) (hr : PAD X B es tr) (he : starEach (a :: es) X.env = (false, eval a X.env) :: starEach es X.env := by rfl) : PAD X B (a :: es) (dCons ta tr) := PA.weak (pa_cons ha hr he) fun σ H Q h => by
  obtain ⟨Z, S, Γ, fp, ofp, P, r0, h, q⟩ := h
  refine ⟨Z, S, Γ, fp, ofp, _, r0, h, fun x S1 h1 Z1 H1 fp1 vx r1 l1 b1 => ?_⟩
  refine ⟨Z1, S1, Γ, fp1, ofp, _, r1, h1, fun xs S2 h2 Z2 H2 fp2 vs r2 l2 b2 => ?_⟩
  exact q _ S2 h2 Z2 H2 fp2 _ r2 (l1.trans l2) (.cons (b1.up l2) b2)
/-- small enough -/
def sz (n : Nat) : Prop := n ≤ 100000
theorem sz.ok {n : Nat} (h : sz n) : n ≤ sizeLine := Nat.le_trans h (by decide)
def dTup (tr : DA) : DE := fun Γ S Q => tr Γ S fun ds S1 => sz ds.length ∧ Q (.tup ds) S1
theorem pd_tup {k} (ha : PAD X B es tr) (hs : ∀ e', starEach es X.env = e' → True := by intros; trivial) (h : ∀ {t : TA}, PA X es t → PE X (.Tuple es k pos) (tTup t) := by exact fun h => pe_tup h) : PD X B (.Tuple es k pos) (dTup tr) := PE.weak (h ha) fun σ H Q h => by
  obtain ⟨Z, S, Γ, fp, ofp, P, r0, h, q⟩ := h
  refine ⟨Z, S, Γ, fp, ofp, _, r0, h, fun ds S1 h1 Z1 H1 fp1 vs r1 l1 b1 => ?_⟩
  obtain ⟨h1, p1⟩ := h1
  refine ⟨by rw [b1.length]; exact h1.ok, fun p hp => ?_⟩
  have l2 := r1.upF (o := .tup vs) hp
  exact q _ S1 p1 _ _ fp1 _ (r1.growF hp) (l1.trans l2) (.tup (SqT.of (show upd Z1.F p (.tup vs) p = _ from upd_same)) (b1.up l2))
/-- a fresh list -/
def dLst (tr : DA) : DA := fun Γ S Q => tr Γ S fun ds S1 => sz ds.length ∧ Q ds S1
theorem pf_lst (ha : PAD X B es tr) (h : ∀ {t : TA}, PA X es t → PE X (.List es pos) (tLst t) := by exact fun h => pe_lst h) : PF X B (.List es pos) (dLst tr) := PE.weak (h ha) fun σ H Q h => by
  obtain ⟨Z, S, Γ, fp, ofp, P, r0, h, q⟩ := h
  refine ⟨Z, S, Γ, fp, ofp, _, r0, h, fun ds S1 h1 Z1 H1 fp1 vs r1 l1 b1 => ?_⟩
  obtain ⟨h1, p1⟩ := h1
  refine ⟨by rw [b1.length]; exact h1.ok, fun p hp => ?_⟩
  obtain ⟨q1, q2, q3, q4⟩ := r1.fresh hp
  exact q _ S1 p1 Z1 _ fp1 p vs (r1.grow hp) (l1.trans (r1.up0 hp)) upd_same b1 q3 q1 q2 (l1.there _ hp)
/-- frozen -/
def dFz (tr : DA) : DE := fun Γ S Q => tr Γ S fun ds S1 => Q (.lst ds) S1
theorem pd_fz (h : PF X B e tr) : PD X B e (dFz tr) := PE.weak h fun σ H Q h => by
  obtain ⟨Z, S, Γ, fp, ofp, P, r0, h, q⟩ := h
  refine ⟨Z, S, Γ, fp, ofp, _, r0, h, fun ds S1 h1 Z1 H1 fp1 p xs r1 l1 e1 b1 hf n1 n2 n3 => ?_⟩
  exact q _ S1 h1 _ H1 fp1 _ (r1.freeze e1 hf n1 n2 (r0.ext.there _ n3)) (l1.addF n3 hf) (.lst (SqL.of (show upd Z1.F p (.lst xs) p = _ from upd_same)) (b1.mono (le_frz hf)))
/-! ### built-in calls -/
inductive BVs (K : PySem.W.Frag) (Z : Fz) (σ : L2.St) (Γ : Gm) : List V → List D → Prop
  | nil : BVs K Z σ Γ [] []
  | cons {v : V} {vs : List V} {d : D} {ds : List D} : BV K Z σ Γ v d → BVs K Z σ Γ vs ds → BVs K Z σ Γ (v :: vs) (d :: ds)
inductive BQs (K : PySem.W.Frag) (Z : Fz) (S : Sto) (σ : L2.St) (Γ : Gm) : List V → List D → Prop
  | nil : BQs K Z S σ Γ [] []
  | cons {v : V} {vs : List V} {d : D} {ds : List D} : BQ K Z S σ Γ v d → BQs K Z S σ Γ vs ds → BQs K Z S σ Γ (v :: vs) (d :: ds)
theorem BVs.der {K : PySem.W.Frag} {Z : Fz} {S : Sto} {σ : L2.St} {Γ : Gm} : ∀ {vs : List V} {ds : List D}, BVs K Z σ Γ vs ds → BQs K Z S σ Γ vs (ds.map (DL.der S))
  | _, _, .nil => .nil
  | _, _, .cons h t => .cons h.der (BVs.der t)
theorem BVs.q {K : PySem.W.Frag} {Z : Fz} {S : Sto} {σ : L2.St} {Γ : Gm} : ∀ {vs : List V} {ds : List D}, BVs K Z σ Γ vs ds → BQs K Z S σ Γ vs ds
  | _, _, .nil => .nil
  | _, _, .cons h t => .cons h.q (BVs.q t)
def liftAB (K : PySem.W.Frag) (B : Bs) (te : DA) : TA := fun σ H Q => ∃ Z S Γ fp ofp P, R K B Z S Γ σ H fp ofp ∧ te Γ S P ∧
  ∀ ds S', P ds S' → ∀ Z' H' fp' vs, R K B Z' S' Γ σ H' fp' ofp → Up Z H fp Z' H' fp' → BVs K Z' σ Γ vs ds → Q vs H'
abbrev PAB (X : Cx) (B : Bs) (es : List Expr) (te : DA) : Prop := PA X es (liftAB X.K B te)
theorem pb_nil : PAB X B [] dNil := PA.weak pa_nil fun σ H Q h => by
  obtain ⟨Z, S, Γ, fp, ofp, P, r0, h, q⟩ := h
  exact q _ _ h Z H fp [] r0 (.refl _ _ _) .nil
theorem pb_cons (ha : PB X B a ta) (hr : PAB X B es tr) (he : starEach (a :: es) X.env = (false, eval a X.env) :: starEach es X.env := by rfl) : PAB X B (a :: es) (dCons ta tr) := PA.weak (pa_cons ha hr he) fun σ H Q h => by
  obtain ⟨Z, S, Γ, fp, ofp, P, r0, h, q⟩ := h
  refine ⟨Z, S, Γ, fp, ofp, _, r0, h, fun x S1 h1 Z1 H1 fp1 vx r1 l1 b1 => ?_⟩
  refine ⟨Z1, S1, Γ, fp1, ofp, _, r1, h1, fun xs S2 h2 Z2 H2 fp2 vs r2 l2 b2 => ?_⟩
  exact q _ S2 h2 Z2 H2 fp2 _ r2 (l1.trans l2) (.cons (b1.up l2) b2)
/-- what a built-in does on data -/
def CallD (X : Cx) (B : Bs) (r : List V → Hp → VK → Prop) (f : List D → (D → Prop) → Prop) : Prop :=
  ∀ {Z : Fz} {S : Sto} {Γ : Gm} {σ : L2.St} {H : Hp} {fp ofp : List Addr} {xs : List D} {vs : List V} {Q : VK} {P : D → Prop}, R X.K B Z S Γ σ H fp ofp → BQs X.K Z S σ Γ vs xs → f xs P →
    (∀ z, P z → ∀ Z' H' v, R X.K B Z' S Γ σ H' fp ofp → Up Z H fp Z' H' fp → DV X.K Z' v z → Q v H') → r vs H Q
def dCall (f : List D → (D → Prop) → Prop) (tr : DA) : DE := fun Γ S Q => tr Γ S fun xs S1 => f (xs.map (der S1)) fun z => Q z S1
theorem calld_run {r : List V → Hp → VK → Prop} {f : List D → (D → Prop) → Prop} (hd : CallD X B r f) {σ : L2.St} {H : Hp} {Q : VK} (h : liftD X.K B (dCall f tr) σ H Q) : tCB r (liftAB X.K B tr) σ H Q := by
  obtain ⟨Z, S, Γ, fp, ofp, P, r0, h, q⟩ := h
  refine ⟨Z, S, Γ, fp, ofp, _, r0, h, fun xs S1 h1 Z1 H1 fp1 vs r1 l1 b1 => ?_⟩
  exact hd r1 b1.der h1 fun z pz Z3 H3 v r3 l3 dv => q z S1 pz Z3 H3 fp1 v r3 (l1.trans l3) dv
theorem pd_callB {x : Str} {p : Pos} {id : String} {r : List V → Hp → VK → Prop} {f : List D → (D → Prop) → Prop} (o : CallR X (.builtin id) r ∧ CallD X B r f) (hg : Gl X x) (hm : X.mg x = none) (hv : bootBuiltins x = some (.builtin id)) (ha : PAB X B (e :: es) tr) (hn : x ≠ "__name__" := by decide) (hdb : (x == ("__debug__" : Str)) = false := by decide)
    (he : starEach (e :: es) X.env = (false, eval e X.env) :: starEach es X.env := by rfl) (hpl : (backTo pos (starEach es X.env)).any (·.1) = false := by rfl) : PD X B (.Call (.Name x p) (e :: es) [] pos) (dCall f tr) :=
  PE.weak (pe_callB o.1 hg hm hv ha hn hdb he hpl) fun σ H Q h => calld_run o.2 h
theorem pd_callTy {x : Str} {p : Pos} {T : String} {r : List V → Hp → VK → Prop} {f : List D → (D → Prop) → Prop} (o : CallR X (.type T) r ∧ CallD X B r f) (hg : Gl X x) (hm : X.mg x = none) (hv : bootBuiltins x = some (.type T)) (ha : PAB X B (e :: es) tr) (hn : x ≠ "__name__" := by decide) (hdb : (x == ("__debug__" : Str)) = false := by decide)
    (he : starEach (e :: es) X.env = (false, eval e X.env) :: starEach es X.env := by rfl) (hpl : (backTo pos (starEach es X.env)).any (·.1) = false := by rfl) : PD X B (.Call (.Name x p) (e :: es) [] pos) (dCall f tr) :=
  PE.weak (pe_callTy o.1 hg hm hv ha hn hdb he hpl) fun σ H Q h => calld_run o.2 h
/-- a built-in that hands back a fresh list -/
def CallF (X : Cx) (B : Bs) (r : List V → Hp → VK → Prop) (f : List D → (List D → Prop) → Prop) : Prop :=
  ∀ {Z : Fz} {S : Sto} {Γ : Gm} {σ : L2.St} {H : Hp} {fp ofp : List Addr} {xs : List D} {vs : List V} {Q : VK} {P : List D → Prop}, R X.K B Z S Γ σ H fp ofp → BQs X.K Z S σ Γ vs xs → f xs P →
    (∀ ds, P ds → ∀ Z' H' a us, R X.K B Z' S Γ σ H' fp ofp → Up Z H fp Z' H' fp → H' a = some (.lst us) → DVs X.K Z' us ds → Z'.F a = none → a ∉ fp → a ∉ ofp → H a = none → Q (.ref a) H') → r vs H Q
def dCallF (f : List D → (List D → Prop) → Prop) (tr : DA) : DA := fun Γ S Q => tr Γ S fun xs S1 => f (xs.map (der S1)) fun z => Q z S1
theorem callf_run {r : List V → Hp → VK → Prop} {f : List D → (List D → Prop) → Prop} (hd : CallF X B r f) {σ : L2.St} {H : Hp} {Q : VK} (h : liftO X.K B (dCallF f tr) σ H Q) : tCB r (liftAB X.K B tr) σ H Q := by
  obtain ⟨Z, S, Γ, fp, ofp, P, r0, h, q⟩ := h
  refine ⟨Z, S, Γ, fp, ofp, _, r0, h, fun xs S1 h1 Z1 H1 fp1 vs r1 l1 b1 => ?_⟩
  exact hd r1 b1.der h1 fun z pz Z3 H3 a us r3 l3 e3 d3 n1 n2 n3 n4 => q z S1 pz Z3 H3 fp1 a us r3 (l1.trans l3) e3 d3 n1 n2 n3 (l1.there _ n4)
theorem pf_callB {x : Str} {p : Pos} {id : String} {r : List V → Hp → VK → Prop} {f : List D → (List D → Prop) → Prop} (o : CallR X (.builtin id) r ∧ CallF X B r f) (hg : Gl X x) (hm : X.mg x = none) (hv : bootBuiltins x = some (.builtin id)) (ha : PAB X B (e :: es) tr) (hn : x ≠ "__name__" := by decide) (hdb : (x == ("__debug__" : Str)) = false := by decide)
    (he : starEach (e :: es) X.env = (false, eval e X.env) :: starEach es X.env := by rfl) (hpl : (backTo pos (starEach es X.env)).any (·.1) = false := by rfl) : PF X B (.Call (.Name x p) (e :: es) [] pos) (dCallF f tr) :=
  PE.weak (pe_callB o.1 hg hm hv ha hn hdb he hpl) fun σ H Q h => callf_run o.2 h
theorem pf_callTy {x : Str} {p : Pos} {T : String} {r : List V → Hp → VK → Prop} {f : List D → (List D → Prop) → Prop} (o : CallR X (.type T) r ∧ CallF X B r f) (hg : Gl X x) (hm : X.mg x = none) (hv : bootBuiltins x = some (.type T)) (ha : PAB X B (e :: es) tr) (hn : x ≠ "__name__" := by decide) (hdb : (x == ("__debug__" : Str)) = false := by decide)
    (he : starEach (e :: es) X.env = (false, eval e X.env) :: starEach es X.env := by rfl) (hpl : (backTo pos (starEach es X.env)).any (·.1) = false := by rfl) : PF X B (.Call (.Name x p) (e :: es) [] pos) (dCallF f tr) :=
  PE.weak (pe_callTy o.1 hg hm hv ha hn hdb he hpl) fun σ H Q h => callf_run o.2 h
/-- a fresh list by an operator -/
def OpF (X : Cx) (B : Bs) (r : R2) (f : D → D → (List D → Prop) → Prop) : Prop :=
  ∀ {Z : Fz} {S : Sto} {Γ : Gm} {σ : L2.St} {H : Hp} {fp ofp : List Addr} {x y : D} {vx vy : V} {Q : VK} {P : List D → Prop}, R X.K B Z S Γ σ H fp ofp → BQ X.K Z S σ Γ vx x → BQ X.K Z S σ Γ vy y → f x y P →
    (∀ ds, P ds → ∀ Z' H' a us, R X.K B Z' S Γ σ H' fp ofp → Up Z H fp Z' H' fp → H' a = some (.lst us) → DVs X.K Z' us ds → Z'.F a = none → a ∉ fp → a ∉ ofp → H a = none → Q (.ref a) H') → r vx vy H Q
def dOpF (f : D → D → (List D → Prop) → Prop) (ta tb : DE) : DA := fun Γ S Q => ta Γ S fun x S1 => tb Γ S1 fun y S2 => f (der S2 x) (der S2 y) fun z => Q z S2
theorem pf_op {op : Operator} {r : R2} {f : D → D → (List D → Prop) → Prop} (o : OpR X (binaryOp op) r ∧ OpF X B r f) (ha : PB X B a ta) (hb : PB X B b tb) : PF X B (.BinOp a op b pos) (dOpF f ta tb) :=
  PE.weak (pe_op o.1 ha hb) fun σ H Q h => by
  obtain ⟨Z, S, Γ, fp, ofp, P, r0, h, q⟩ := h
  refine ⟨Z, S, Γ, fp, ofp, _, r0, h, fun x S1 h1 Z1 H1 fp1 vx r1 l1 b1 => ?_⟩
  refine ⟨Z1, S1, Γ, fp1, ofp, _, r1, h1, fun y S2 h2 Z2 H2 fp2 vy r2 l2 b2 => ?_⟩
  exact o.2 r2 (b1.up l2).der b2.der h2 fun z pz Z3 H3 v us r3 l3 e3 d3 n1 n2 n3 n4 => q z S2 pz Z3 H3 fp2 v us r3 ((l1.trans l2).trans l3) e3 d3 n1 n2 n3 ((l1.trans l2).there _ n4)
end
end DL
namespace DL
open PySem PySem.Spec PyProof.Rows L2

/-! ### an owned list changed -/
section
variable {K : PySem.W.Frag} {B : Bs} {Z Z' : Fz} {S : Sto} {Γ : Gm} {σ : L2.St} {H H' : Hp} {fp ofp : List Addr}
theorem slot_set_ne {w : Option W} : ∀ {Γ : Gm} {i j : Nat}, i ≠ j → slotAt (Γ.set i w) j = slotAt Γ j
  | [], _, _, _ => rfl
  | _ :: _, 0, 0, h => absurd rfl h
  | _ :: _, 0, _ + 1, _ => rfl
  | _ :: _, _ + 1, 0, _ => rfl
  | _ :: r, i + 1, j + 1, h => slot_set_ne (Γ := r) fun e => h (by rw [e])
theorem GR.write : ∀ {σ : L2.St} {Γ : Gm} {as : List Addr} {i : Nat} {ds ds' : List D} {a : Addr} {xs : List V}, GR K Z H σ Γ as → as.Nodup → slotAt Γ i = some (.own ds) → σ[i]? = some (some (.ref a)) → DVs K Z xs ds' →
    GR K Z (upd H a (.lst xs)) σ (Γ.set i (some (.own ds'))) as ∧ a ∈ as
  | _, _, _, _, _, _, _, _, .nil, _, e, _, _ => by cases e
  | _, _, _, 0, _, _, _, _, .gn q, _, e, _, _ => by cases e
  | _, _, _, i + 1, _, _, _, _, .gn q, n, e, e2, d => by
    obtain ⟨g, m⟩ := GR.write q n e (by simpa using e2) d
    exact ⟨.gn g, m⟩
  | _, _, _, 0, _, _, a, xs, .gs (bs := bs) h q, n, e, e2, d => by
    cases e
    simp at e2
    subst e2
    cases h with
    | own h1 h2 =>
      have n2 : a ∉ bs := (List.nodup_cons.mp n).1
      refine ⟨.gs (.own upd_same d) (q.mono (.refl _) fun b m o e => ?_), List.mem_append_left _ (List.mem_singleton.mpr rfl)⟩
      rw [upd_ne fun z => n2 (by rw [← z]; exact m)]
      exact e
  | _, _, _, i + 1, _, _, a, xs, .gs (as := as1) h q, n, e, e2, d => by
    have n' := List.nodup_append.mp n
    obtain ⟨g, m⟩ := GR.write q n'.2.1 e (by simpa using e2) d
    refine ⟨.gs (h.mono (.refl _) fun b mb o e => ?_) g, List.mem_append_right _ m⟩
    rw [upd_ne (n'.2.2 b mb a m)]
    exact e
theorem R.write (r : R K B Z S Γ σ H fp ofp) {i : Nat} {ds ds' : List D} (e : slotAt Γ i = some (.own ds)) : ∃ a xs, σ[i]? = some (some (.ref a)) ∧ H a = some (.lst xs) ∧ DVs K Z xs ds ∧
    ∀ xs', DVs K Z xs' ds' → R K B Z S (Γ.set i (some (.own ds'))) σ (upd H a (.lst xs')) fp ofp := by
  obtain ⟨v, bs, e1, w, hb⟩ := r.gm.get e
  cases w with
  | @own a xs _ h q =>
    refine ⟨a, xs, e1, h, q, fun xs' d => ?_⟩
    have n' := List.nodup_append.mp r.nd
    obtain ⟨g, m⟩ := r.gm.write n'.2.1 e e1 d
    have na : ∀ b o, b ≠ a → H b = some o → upd H a (.lst xs') b = some o := fun b o n e => by
      rw [upd_ne n]
      exact e
    have fa : Z.F a = none := r.nf a (List.mem_append_right _ m)
    refine ⟨r.kk, fun b o e => na b o (fun z => by rw [z, fa] at e; cases e) (r.fr b o e), r.st.mono (.refl _) (by have := r.kk; omega) (fun b mb o e => na b o (n'.2.2 b mb a m) e), g, r.nd, r.nf,
      ⟨r.ext.le, r.ext.fl, fun b o e n => ?_, fun b e => ?_, r.ext.new, r.ext.frz⟩, r.of⟩
    · refine na b o (fun z => ?_) (r.ext.keep b o e n)
      subst z
      rcases r.ext.new b (List.mem_append_right _ m) with z | z
      · exact n z
      · rw [z] at e
        cases e
    · by_cases z : b = a
      · rw [z, upd_same] at e
        cases e
      · rw [upd_ne z] at e
        exact r.ext.there b e
end

section
variable {X : Cx} {B : Bs} {a b c e : Expr} {te : DE} {to : DA} {tt : DT} {pos : Pos} {ts tu : DS} {st : Stmt} {rest : List Stmt}
def dNext : DS := fun DD Γ S => DD.nx Γ S
def dSeq (t u : DS) : DS := fun DD Γ S => t { DD with nx := u DD } Γ S
theorem ends_seq {DD : DEnds} {Dn : Ends} (ok : EndsOk X.K B DD Dn) : EndsOk X.K B { DD with nx := tu DD } { Dn with nx := liftS X.K B tu Dn } :=
  ⟨fun Z S Γ σ H fp ofp r h => ⟨Z, S, Γ, fp, ofp, DD, r, h, ok⟩, ok.bk, ok.ct, ok.rt⟩
theorem pss_dnil : PSsD X B [] dNext := PSs.weak pss_nil fun Dn σ H h => by
  obtain ⟨Z, S, Γ, fp, ofp, DD, r, h, ok⟩ := h
  exact ok.nx _ _ _ _ _ _ _ r h
theorem pss_dcons (h1 : PSD X B st ts) (h2 : PSsD X B rest tu) : PSsD X B (st :: rest) (dSeq ts tu) := PSs.weak (pss_cons h1 h2) fun Dn σ H h => by
  obtain ⟨Z, S, Γ, fp, ofp, DD, r, h, ok⟩ := h
  exact ⟨Z, S, Γ, fp, ofp, _, r, h, ends_seq ok⟩
theorem pss_done (h1 : PSD X B st ts) : PSsD X B [st] ts := pss_one h1
def dPass : DS := fun DD Γ S => DD.nx Γ S
def dBrk : DS := fun DD Γ S => DD.bk Γ S
def dCnt : DS := fun DD Γ S => DD.ct Γ S
theorem ps_dpass : PSD X B (.Pass pos) dPass := PS.weak ps_pass fun Dn σ H h => by
  obtain ⟨Z, S, Γ, fp, ofp, DD, r, h, ok⟩ := h
  exact ok.nx _ _ _ _ _ _ _ r h
theorem ps_dbrk : PSD X B (.Break pos) dBrk := PS.weak ps_break fun Dn σ H h => by
  obtain ⟨Z, S, Γ, fp, ofp, DD, r, h, ok⟩ := h
  exact ok.bk _ _ _ _ _ _ _ r h
theorem ps_dcnt : PSD X B (.Continue pos) dCnt := PS.weak ps_continue fun Dn σ H h => by
  obtain ⟨Z, S, Γ, fp, ofp, DD, r, h, ok⟩ := h
  exact ok.ct _ _ _ _ _ _ _ r h
def dDrop (te : DE) : DS := fun DD Γ S => te Γ S fun _ S1 => DD.nx Γ S1
theorem ps_ddrop (he : PD X B e te) (hs : swapsWith e none pos.line X.env = pure false := by rfl) : PSD X B (.Expr e pos) (dDrop te) := PS.weak (ps_expr he hs) fun Dn σ H h => by
  obtain ⟨Z, S, Γ, fp, ofp, DD, r, h, ok⟩ := h
  exact ⟨Z, S, Γ, fp, ofp, _, r, h, fun d S' p Z' H' fp' v r' l dv => ok.nx _ _ _ _ _ _ _ r' p⟩
def dRet (te : DE) : DS := fun DD Γ S => te Γ S fun x S1 => DD.rt (.d x) S1
theorem ps_dret (he : PD X B e te) : PSD X B (.Return (some e) pos) (dRet te) := PS.weak (ps_ret he) fun Dn σ H h => by
  obtain ⟨Z, S, Γ, fp, ofp, DD, r, h, ok⟩ := h
  exact ⟨Z, S, Γ, fp, ofp, _, r, h, fun d S' p Z' H' fp' v r' l dv => ok.rt _ _ _ _ _ _ _ (.d d) v r' dv p⟩
/-- a fresh list handed back, the caller's own -/
def dRetF (to : DA) : DS := fun DD Γ S => to Γ S fun ds S1 => DD.rt (.own ds) S1
theorem ps_dretF (he : PF X B e to) : PSD X B (.Return (some e) pos) (dRetF to) := PS.weak (ps_ret he) fun Dn σ H h => by
  obtain ⟨Z, S, Γ, fp, ofp, DD, r, h, ok⟩ := h
  exact ⟨Z, S, Γ, fp, ofp, _, r, h, fun ds S' p Z' H' fp' a xs r' l e1 d1 n1 n2 n3 n4 => ok.rt _ _ _ _ _ _ _ (.own ds) _ r' ⟨a, xs, rfl, e1, d1, n1, n2, r.ext.there _ n4⟩ p⟩
/-- a slot's own list handed back -/
def dRetO (i : Nat) : DS := fun DD Γ S => match slotAt Γ i with
  | some (.own ds) => DD.rt (.own ds) S
  | _ => False
theorem ps_dretO (i : Nat) {x : Str} {p : Pos} (hN : X.N[i]? = some x := by rfl) (hv : Vis X.env.scope x := by first | exact Or.inl rfl | exact Or.inr (Or.inl rfl) | exact Or.inr (Or.inr rfl)) (hd : (x == ("__debug__" : Str)) = false := by decide)
    (hcd : (x == ("__classdict__" : Str)) = false := by decide) : PSD X B (.Return (some (.Name x p)) pos) (dRetO i) := PS.weak (ps_ret (pe_var hN hv hd hcd)) fun Dn σ H h => by
  obtain ⟨Z, S, Γ, fp, ofp, DD, r, h, ok⟩ := h
  unfold dRetO at h
  split at h
  · rename_i ds e0
    obtain ⟨a, xs, e1, h1, d1, k⟩ := r.write (ds' := []) e0
    refine ⟨_, e1, ?_⟩
    obtain ⟨v, bs, e2, w, hb⟩ := r.gm.get e0
    rw [e1] at e2
    cases e2
    cases w with
    | own h2 d2 =>
      have m := hb a (List.mem_singleton.mpr rfl)
      have n' := List.nodup_append.mp r.nd
      have nf : a ∉ fp := fun z => n'.2.2 a z a m rfl
      exact ok.rt _ _ _ _ _ _ _ (.own ds) _ r ⟨a, xs, rfl, h1, d1, r.nf a (List.mem_append_right _ m), nf, r.of a m⟩ h
  · exact h.elim

/-! ### stores -/
def dSet (i : Nat) (te : DE) : DS := fun DD Γ S => te Γ S fun x S1 => DD.nx (Γ.set i (some (.d x))) S1
def dSetF (i : Nat) (to : DA) : DS := fun DD Γ S => to Γ S fun ds S1 => DD.nx (Γ.set i (some (.own ds))) S1
theorem ps_dset (i : Nat) {x : Str} {pos' : Pos} (hN : X.N.Nodup) (he : PD X B e te) (hi : X.N[i]? = some x := by rfl) (hx : Loc X.env.scope x := by first | exact Or.inl rfl | exact Or.inr rfl) (hs : swapsWith e (some (.Name x pos')) pos.line X.env = pure false := by rfl)
    (hf : X.fn x = true ∨ X.env.scope.names.lookup x = some .local := by first | exact .inl rfl | exact .inr rfl | assumption) : PSD X B (.Assign [.Name x pos'] e pos) (dSet i te) := PS.weak (ps_set hN hi hx he hs hf) fun Dn σ H h => by
  obtain ⟨Z, S, Γ, fp, ofp, DD, r, h, ok⟩ := h
  refine ⟨Z, S, Γ, fp, ofp, _, r, h, fun d S' p Z' H' fp' v r' l dv => ?_⟩
  obtain ⟨ofp', r2, _⟩ := r'.setD i dv
  exact ok.nx _ _ _ _ _ _ _ r2 p
theorem ps_dsetF (i : Nat) {x : Str} {pos' : Pos} (hN : X.N.Nodup) (he : PF X B e to) (hi : X.N[i]? = some x := by rfl) (hx : Loc X.env.scope x := by first | exact Or.inl rfl | exact Or.inr rfl) (hs : swapsWith e (some (.Name x pos')) pos.line X.env = pure false := by rfl)
    (hf : X.fn x = true ∨ X.env.scope.names.lookup x = some .local := by first | exact .inl rfl | exact .inr rfl | assumption) : PSD X B (.Assign [.Name x pos'] e pos) (dSetF i to) := PS.weak (ps_set hN hi hx he hs hf) fun Dn σ H h => by
  obtain ⟨Z, S, Γ, fp, ofp, DD, r, h, ok⟩ := h
  refine ⟨Z, S, Γ, fp, ofp, _, r, h, fun ds S' p Z' H' fp' a xs r' l e1 d1 n1 n2 n3 n4 => ?_⟩
  obtain ⟨ofp', r2⟩ := r'.setO i e1 d1 n1 n2 n3 (r.ext.there _ n4)
  exact ok.nx _ _ _ _ _ _ _ r2 p
/-- x.append(e), x a slot's own list -/
def dApp (i : Nat) (te : DE) : DS := fun DD Γ S => match slotAt Γ i with
  | some (.own ds) => te Γ S fun y S1 => sz (ds.length + 1) ∧ DD.nx (Γ.set i (some (.own (ds ++ [y])))) S1
  | _ => False
theorem ps_dapp (i : Nat) {x : Str} {p1 p2 p3 : Pos} (he : PD X B e te)
    (h : ∀ {te' : TE}, PE X e te' → PS X (.Expr (.Call (.Attribute (.Name x p1) "append" p2) [e] [] p3) pos) (tDrop (tBM X.K "list" rAppend (tVar i) (tCons te' tNil))) := by
      exact fun h => ps_expr (pe_bm PySem.F.plainAttrs_list PySem.F.slot_list_append PySem.F.type_list_append mt_append (pv _) (pa_cons h pa_nil))) :
    PSD X B (.Expr (.Call (.Attribute (.Name x p1) "append" p2) [e] [] p3) pos) (dApp i te) := PS.weak (h he) fun Dn σ H h => by
  obtain ⟨Z, S, Γ, fp, ofp, DD, r, h, ok⟩ := h
  unfold dApp at h
  split at h
  · rename_i ds e0
    obtain ⟨a, xs, e1, h1, d1, k⟩ := r.write (ds' := []) e0
    refine ⟨_, e1, .inl ⟨rfl, _, SqL.of h1⟩, ?_⟩
    refine ⟨Z, S, Γ, fp, ofp, _, r, h, fun d S' p Z' H' fp' v r' l dv => ?_⟩
    obtain ⟨s1, p⟩ := p
    obtain ⟨a', xs', e1', h1', d1', k'⟩ := r'.write (ds' := ds ++ [d]) e0
    rw [e1] at e1'
    cases e1'
    refine ⟨a, xs', v, rfl, rfl, h1', ?_, ?_⟩
    · rw [d1'.length]
      exact Nat.lt_of_lt_of_le (Nat.lt_succ_self _) s1.ok
    · exact ok.nx _ _ _ _ _ _ _ (k' _ (d1'.append (.cons dv .nil))) p
  · exact h.elim
/-- x[j] = e, x a slot's own list -/
def ixSet (i : Nat) (ds : List D) (y k : D) (Q : Gm → Prop) (Γ : Gm) : Prop := ∃ n : Int, k = .int n ∧ ∃ j : Nat, ixN ds.length n = some j ∧ Q (Γ.set i (some (.own (ds.set j y))))
def dIxSet (i : Nat) (ti te : DE) : DS := fun DD Γ S => match slotAt Γ i with
  | some (.own ds) => te Γ S fun y S1 => ti Γ S1 fun k S2 => ixSet i ds y k (fun Γ' => DD.nx Γ' S2) Γ
  | _ => False
theorem ps_dixset (i : Nat) {x : Str} {p1 p2 : Pos} {ix : Expr} {ti : DE} (he : PD X B e te) (hi : PD X B ix ti)
    (h : ∀ {te' ti' : TE}, PE X e te' → PE X ix ti' → PS X (.Assign [.Subscript (.Name x p1) ix p2] e pos) (tAsg te' (gSub (tVar i) ti' rSetL)) := by exact fun h h' => ps_asg h (pg_sub (pv _) h' set_list)) :
    PSD X B (.Assign [.Subscript (.Name x p1) ix p2] e pos) (dIxSet i ti te) := PS.weak (h he hi) fun Dn σ H h => by
  obtain ⟨Z, S, Γ, fp, ofp, DD, r, h, ok⟩ := h
  have own : ∃ ds, slotAt Γ i = some (.own ds) := by
    unfold dIxSet at h
    split at h
    · exact ⟨_, by assumption⟩
    · exact h.elim
  obtain ⟨ds, e0⟩ := own
  unfold dIxSet at h
  rw [e0] at h
  refine ⟨Z, S, Γ, fp, ofp, _, r, h, fun y S1 p1 Z1 H1 fp1 v1 r1 l1 dv1 => ?_⟩
  obtain ⟨a, xs, e1, h1, d1, k⟩ := r1.write (ds' := []) e0
  refine ⟨_, e1, ?_⟩
  refine ⟨Z1, S1, Γ, fp1, ofp, _, r1, p1, fun q S2 p2 Z2 H2 fp2 v2 r2 l2 dv2 => ?_⟩
  obtain ⟨n, rfl, j, ej, p2⟩ := p2
  cases dv2
  obtain ⟨a', xs', e1', h1', d1', k'⟩ := r2.write (ds' := ds.set j y) e0
  rw [e1] at e1'
  cases e1'
  refine ⟨a, xs', n, j, rfl, rfl, h1', by rw [d1'.length]; exact ej, ?_⟩
  exact ok.nx _ _ _ _ _ _ _ (k' _ (d1'.set j (dv1.up l2))) p2

/-! ### if -/
def dIfS (t : DT) (ts tu : DS) : DS := fun DD Γ S => t Γ S fun c S1 => (c = true → ts DD Γ S1) ∧ (c = false → tu DD Γ S1)
theorem ps_dif {sa sb : List Stmt} (hc : PTD X B c tt) (ha : PSsD X B sa ts) (hb : PSsD X B sb tu) : PSD X B (.If c sa sb pos) (dIfS tt ts tu) := PS.weak (ps_if hc ha hb) fun Dn σ H h => by
  obtain ⟨Z, S, Γ, fp, ofp, DD, r, h, ok⟩ := h
  refine ⟨Z, S, Γ, fp, ofp, _, r, h, fun k S1 h1 Z1 H1 fp1 r1 l1 => ?_⟩
  cases k with
  | true => exact iteT ⟨Z1, S1, Γ, fp1, ofp, DD, r1, h1.1 rfl, ok⟩
  | false => exact iteF ⟨Z1, S1, Γ, fp1, ofp, DD, r1, h1.2 rfl, ok⟩

/-! ### targets -/
abbrev DG := D → Gm → (Gm → Prop) → Prop
/-- a target's reading on data -/
def GOk (K : PySem.W.Frag) (B : Bs) (g : TG) (dg : DG) : Prop :=
  ∀ {Z : Fz} {S : Sto} {Γ : Gm} {σ : L2.St} {H : Hp} {fp ofp : List Addr} {v : V} {x : D} {P : Gm → Prop} {Q : L2.St → Hp → Prop}, R K B Z S Γ σ H fp ofp → DV K Z v x → dg x Γ P →
    (∀ Γ', P Γ' → ∀ σ' Z' ofp', R K B Z' S Γ' σ' H fp ofp' → Z.le Z' → Q σ' H) → g v σ H Q
def PGD (X : Cx) (tg : Expr) (dg : DG) : Prop := ∃ g, PG X tg g ∧ ∀ B, GOk X.K B g dg
def dgName (i : Nat) : DG := fun x Γ P => P (Γ.set i (some (.d x)))
theorem pg_dname (i : Nat) {x : Str} (hN : X.N.Nodup) (hi : X.N[i]? = some x := by rfl) (hx : Loc X.env.scope x := by first | exact Or.inl rfl | exact Or.inr rfl) (hf : X.fn x = true ∨ X.env.scope.names.lookup x = some .local := by first | exact .inl rfl | exact .inr rfl | assumption) : PGD X (.Name x pos) (dgName i) :=
  ⟨gName i, pg_name hN hi hx hf, fun B {Z S Γ σ H fp ofp v x P Q} r dv h q => by
    obtain ⟨ofp', r2, _⟩ := r.setD i dv
    exact q _ h _ _ _ r2 (.refl _)⟩
abbrev DGs := List D → Gm → (Gm → Prop) → Prop
def GsOk (K : PySem.W.Frag) (B : Bs) (g : TGs) (dg : DGs) : Prop :=
  ∀ {Z : Fz} {S : Sto} {Γ : Gm} {σ : L2.St} {H : Hp} {fp ofp : List Addr} {vs : List V} {xs : List D} {P : Gm → Prop} {Q : L2.St → Hp → Prop}, R K B Z S Γ σ H fp ofp → DVs K Z vs xs → dg xs Γ P →
    (∀ Γ', P Γ' → ∀ σ' Z' ofp', R K B Z' S Γ' σ' H fp ofp' → Z.le Z' → Q σ' H) → g vs σ H Q
def PGsD (X : Cx) (tg : List Expr) (dg : DGs) : Prop := ∃ g, PGs X tg g ∧ ∀ B, GsOk X.K B g dg
def dgNil : DGs := fun xs Γ P => match xs with
  | [] => P Γ
  | _ => False
def dgCons (dg : DG) (dr : DGs) : DGs := fun xs Γ P => match xs with
  | x :: r => dg x Γ fun Γ1 => dr r Γ1 P
  | [] => False
theorem pgs_dnil : PGsD X [] dgNil := ⟨gNil, pgs_nil, fun B {Z S Γ σ H fp ofp vs xs P Q} r dv h q => by
  cases dv with
  | nil => exact ⟨rfl, q _ h _ _ _ r (.refl _)⟩
  | cons _ _ => exact False.elim h⟩
theorem pgs_dcons {tg : Expr} {tgs : List Expr} {dg : DG} {dr : DGs} (h1 : PGD X tg dg) (h2 : PGsD X tgs dr)
    (k : ∀ {t : TG} {u : TGs}, PG X tg t → PGs X tgs u → PGs X (tg :: tgs) (gCons t u) := by exact fun h h' => pgs_cons h h') : PGsD X (tg :: tgs) (dgCons dg dr) := by
  obtain ⟨g, p, o⟩ := h1
  obtain ⟨gs, ps, os⟩ := h2
  refine ⟨gCons g gs, k p ps, fun B {Z S Γ σ H fp ofp vs xs P Q} r dv h q => ?_⟩
  cases dv with
  | nil => exact False.elim h
  | cons d1 d2 => exact ⟨_, _, rfl, o B r d1 h fun Γ' p' σ' Z' ofp' r' l' => os B r' (d2.mono l') p' fun Γ2 p2 σ2 Z2 ofp2 r2 l2 => q _ p2 _ _ _ r2 (l'.trans l2)⟩
def dgTup (n : Nat) (dr : DGs) : DG := fun x Γ P => match x with
  | .tup xs => xs.length = n ∧ dr xs Γ P
  | _ => False
theorem pg_dtup {tgs : List Expr} {k n : Nat} {dr : DGs} (hc : X.calm = true) (h : PGsD X tgs dr)
    (kk : ∀ {u : TGs}, X.calm = true → PGs X tgs u → PG X (.Tuple tgs k pos) (gTup X.K n u) := by exact fun hc h => pg_tup hc h) : PGD X (.Tuple tgs k pos) (dgTup n dr) := by
  obtain ⟨gs, ps, os⟩ := h
  refine ⟨gTup X.K n gs, kk hc ps, fun B {Z S Γ σ H fp ofp v x P Q} r dv h q => ?_⟩
  cases dv with
  | tup h1 h2 =>
    obtain ⟨e, h⟩ := h
    exact ⟨_, _, rfl, same_sqT r.fr h1, by rw [h2.length]; exact e, os B r h2 h q⟩
  | _ => exact False.elim h
/-- target = e -/
def dAsg (dg : DG) (te : DE) : DS := fun DD Γ S => te Γ S fun x S1 => dg x Γ fun Γ1 => DD.nx Γ1 S1
theorem ps_dasg {tg : Expr} {dg : DG} (he : PD X B e te) (hg : PGD X tg dg) (hs : swapsWithSole [tg] e pos.line X.env = pure false := by rfl) (hw : swappedStores [tg] e X.env = pure none := by rfl) (h1 : (assignEach [tg] X.env).map (·.2) = [assign tg X.env] := by rfl) : PSD X B (.Assign [tg] e pos) (dAsg dg te) := by
  obtain ⟨g, p, o⟩ := hg
  exact PS.weak (ps_asg he p hs hw h1) fun Dn σ H h => by
    obtain ⟨Z, S, Γ, fp, ofp, DD, r, h, ok⟩ := h
    refine ⟨Z, S, Γ, fp, ofp, _, r, h, fun d S' p Z' H' fp' v r' l dv => ?_⟩
    exact o B r' dv p fun Γ' p' σ' Z2 ofp' r2 l2 => ok.nx _ _ _ _ _ _ _ r2 p'

/-! ### what is walked -/
def ItOk (K : PySem.W.Frag) (B : Bs) (Z0 : Fz) (J : It) (xs : List D) : Prop := ∀ (i : Nat) (Z : Fz) (S : Sto) (Γ : Gm) (σ : L2.St) (H : Hp) (fp ofp : List Addr), R K B Z S Γ σ H fp ofp → Z0.le Z →
  (∀ x, xs[i]? = some x → J.go i H ∧ ∀ v H', J.yld i H v H' → ∃ Z', R K B Z' S Γ σ H' fp ofp ∧ Up Z H fp Z' H' fp ∧ DV K Z' v x) ∧ (xs[i]? = none → J.stop i H)
def liftI (K : PySem.W.Frag) (B : Bs) (wi : DA) : TI := fun σ H Rr => ∃ Z S Γ fp ofp P, R K B Z S Γ σ H fp ofp ∧ wi Γ S P ∧
  ∀ xs S', P xs S' → ∀ Z' H' fp', R K B Z' S' Γ σ H' fp' ofp → Up Z H fp Z' H' fp' → ∀ J, ItOk K B Z' J xs → Rr J H'
abbrev PID (X : Cx) (B : Bs) (tg iter : Expr) (wi : DA) : Prop := PI X tg iter (liftI X.K B wi)
theorem PI.weak {X : Cx} {tg iter : Expr} {t t' : TI} (h : PI X tg iter t) (k : ∀ σ H Q, t' σ H Q → t σ H Q) : PI X tg iter t' := ⟨fun pins s σ H Q I q => h.run pins s σ H Q I (k _ _ _ q)⟩
theorem it_list {K : PySem.W.Frag} {B : Bs} {Z : Fz} {a : Addr} {us : List V} {xs : List D} (h : SqL K Z.F a us) (d : DVs K Z us xs) : ItOk K B Z (Itl K a) xs := fun i Z1 S Γ σ H fp ofp r l => by
  have hH : SqL K H a us := same_sqL (fun b o e => r.fr b o (l.f b o e)) h
  refine ⟨fun x e => ?_, fun e => ⟨us, hH, ?_⟩⟩
  · obtain ⟨v, e1, dv⟩ := d.getD e
    refine ⟨⟨us, v, hH, e1⟩, fun w H' y => ?_⟩
    obtain ⟨rfl, y⟩ := y
    have e2 := y us hH
    rw [e1] at e2
    cases e2
    exact ⟨Z1, r, .refl _ _ _, dv.mono l⟩
  · rw [d.length]
    exact List.getElem?_eq_none_iff.mp e
theorem it_tup {K : PySem.W.Frag} {B : Bs} {Z : Fz} {a : Addr} {us : List V} {xs : List D} (h : SqT K Z.F a us) (d : DVs K Z us xs) : ItOk K B Z (Itt K a) xs := fun i Z1 S Γ σ H fp ofp r l => by
  have hH : SqT K H a us := same_sqT (fun b o e => r.fr b o (l.f b o e)) h
  refine ⟨fun x e => ?_, fun e => ⟨us, hH, ?_⟩⟩
  · obtain ⟨v, e1, dv⟩ := d.getD e
    refine ⟨⟨us, v, hH, e1⟩, fun w H' y => ?_⟩
    obtain ⟨rfl, y⟩ := y
    have e2 := y us hH
    rw [e1] at e2
    cases e2
    exact ⟨Z1, r, .refl _ _ _, dv.mono l⟩
  · rw [d.length]
    exact List.getElem?_eq_none_iff.mp e
def intsFrom (lo : Int) : Nat → List D
  | 0 => []
  | n + 1 => .int lo :: intsFrom (lo + 1) n
theorem intsFrom_get : ∀ (n : Nat) (lo : Int) (i : Nat), (intsFrom lo n)[i]? = if i < n then some (.int (lo + i)) else none
  | 0, lo, i => by simp [intsFrom]
  | n + 1, lo, 0 => by simp [intsFrom]
  | n + 1, lo, i + 1 => by
    show (intsFrom (lo + 1) n)[i]? = _
    rw [intsFrom_get n (lo + 1) i]
    by_cases h : i < n
    · rw [if_pos h, if_pos (by omega)]
      have : lo + 1 + (i : Int) = lo + ((i + 1 : Nat) : Int) := by omega
      rw [this]
    · rw [if_neg h, if_neg (by omega)]
theorem it_range {K : PySem.W.Frag} {B : Bs} {Z : Fz} {lo : Int} {n : Nat} : ItOk K B Z (Itr lo n) (intsFrom lo n) := fun i Z1 S Γ σ H fp ofp r l => by
  rw [intsFrom_get]
  refine ⟨fun x e => ?_, fun e => ?_⟩
  · by_cases h : i < n
    · rw [if_pos h] at e
      cases e
      refine ⟨h, fun w H' y => ?_⟩
      obtain ⟨rfl, rfl⟩ := y
      exact ⟨Z1, r, .refl _ _ _, .int _⟩
    · rw [if_neg h] at e
      cases e
  · show n ≤ i
    by_cases h : i < n
    · rw [if_pos h] at e
      cases e
    · omega
/-- over a list, a tuple -/
def dWl (te : DE) : DA := fun Γ S Q => te Γ S fun x S1 => match x with
  | .lst ds => Q ds S1
  | _ => False
def dWt (te : DE) : DA := fun Γ S Q => te Γ S fun x S1 => match x with
  | .tup ds => Q ds S1
  | _ => False
theorem pi_dlist {tg : Expr} (he : PD X B e te) : PID X B tg e (dWl te) := PI.weak (pi_list he) fun σ H Rr h => by
  obtain ⟨Z, S, Γ, fp, ofp, P, r, h, q⟩ := h
  refine ⟨Z, S, Γ, fp, ofp, _, r, h, fun d S1 p1 Z1 H1 fp1 v1 r1 l1 dv1 => ?_⟩
  cases dv1 with
  | lst h1 d1 => exact ⟨_, rfl, ⟨_, same_sqL r1.fr h1⟩, q _ S1 p1 Z1 H1 fp1 r1 l1 _ (it_list h1 d1)⟩
  | _ => exact False.elim p1
theorem pi_dtup {tg : Expr} (he : PD X B e te) : PID X B tg e (dWt te) := PI.weak (pi_tup he) fun σ H Rr h => by
  obtain ⟨Z, S, Γ, fp, ofp, P, r, h, q⟩ := h
  refine ⟨Z, S, Γ, fp, ofp, _, r, h, fun d S1 p1 Z1 H1 fp1 v1 r1 l1 dv1 => ?_⟩
  cases dv1 with
  | tup h1 d1 => exact ⟨_, rfl, ⟨_, same_sqT r1.fr h1⟩, q _ S1 p1 Z1 H1 fp1 r1 l1 _ (it_tup h1 d1)⟩
  | _ => exact False.elim p1
def dRng1 (tr : DA) : DA := fun Γ S Q => tr Γ S fun xs S1 => match xs with
  | [.int n] => -(2 ^ 62) ≤ n ∧ n < 2 ^ 62 ∧ Q (intsFrom 0 n.toNat) S1
  | _ => False
def dRng2 (tr : DA) : DA := fun Γ S Q => tr Γ S fun xs S1 => match xs with
  | [.int i, .int j] => (-(2 ^ 62) ≤ i ∧ i < 2 ^ 62 ∧ -(2 ^ 62) ≤ j ∧ j < 2 ^ 62) ∧ Q (intsFrom i (j - i).toNat) S1
  | _ => False
theorem pi_drange1 {tg : Expr} {p : Pos} {tr : DA} (hg : Gl X "range") (hm : X.mg "range" = none) (ha : PAD X B [a] tr) (hs : starEach [a] X.env = [(false, eval a X.env)] := by rfl) : PID X B tg (.Call (.Name "range" p) [a] [] pos) (dRng1 tr) :=
  PI.weak (pi_range1 hg hm ha hs) fun σ H Rr h => by
  obtain ⟨Z, S, Γ, fp, ofp, P, r, h, q⟩ := h
  refine ⟨Z, S, Γ, fp, ofp, _, r, h, fun xs S1 p1 Z1 H1 fp1 v1 r1 l1 dv1 => ?_⟩
  revert p1
  show _ → _
  intro p1
  split at p1
  · cases dv1 with
    | cons d1 d2 =>
      cases d1
      cases d2
      exact ⟨_, rfl, p1.1, p1.2.1, q _ S1 p1.2.2 Z1 H1 fp1 r1 l1 _ it_range⟩
  · exact p1.elim
theorem pi_drange2 {tg : Expr} {p : Pos} {tr : DA} (hg : Gl X "range") (hm : X.mg "range" = none) (ha : PAD X B [a, b] tr) (hs : starEach [a, b] X.env = [(false, eval a X.env), (false, eval b X.env)] := by rfl) (hs2 : starEach [b] X.env = [(false, eval b X.env)] := by rfl) :
    PID X B tg (.Call (.Name "range" p) [a, b] [] pos) (dRng2 tr) :=
  PI.weak (pi_range2 hg hm ha hs hs2) fun σ H Rr h => by
  obtain ⟨Z, S, Γ, fp, ofp, P, r, h, q⟩ := h
  refine ⟨Z, S, Γ, fp, ofp, _, r, h, fun xs S1 p1 Z1 H1 fp1 v1 r1 l1 dv1 => ?_⟩
  revert p1
  show _ → _
  intro p1
  split at p1
  · cases dv1 with
    | cons d1 d2 =>
      cases d1
      cases d2 with
      | cons d3 d4 =>
        cases d3
        cases d4
        exact ⟨_, _, rfl, p1.1, q _ S1 p1.2 Z1 H1 fp1 r1 l1 _ it_range⟩
  · exact p1.elim

/-! ### for -/
def forL (dg : DG) (body : DS) : List D → DS
  | [], DD, Γ, S => DD.nx Γ S
  | x :: r, DD, Γ, S => dg x Γ fun Γ1 => body { DD with nx := forL dg body r DD, ct := forL dg body r DD, bk := DD.nx } Γ1 S
def dFor (wi : DA) (dg : DG) (body : DS) : DS := fun DD Γ S => wi Γ S fun xs S1 => forL dg body xs DD Γ S1
theorem ps_dfor {iter tg : Expr} {body : List Stmt} {wi : DA} {dg : DG} (hp : PassesOwn (model X.prog X.w) X.A X.env X.xe) (hc : X.calm = true) (hi : PID X B tg iter wi) (hg : PGD X tg dg) (hb : ∀ B', B.up B' → PSsD X B' body ts)
    (k : ∀ {wi' : TI} {g' : TG} {tb' : TS}, PassesOwn (model X.prog X.w) X.A X.env X.xe → X.calm = true → PI X tg iter wi' → PG X tg g' → PSs X body tb' → PS X (.For tg iter body [] pos) (tFor wi' g' tb') := by exact fun h1 h2 h h' h'' => ps_for h1 h2 h h' h'') :
    PSD X B (.For tg iter body [] pos) (dFor wi dg ts) := by
  obtain ⟨g, p, o⟩ := hg
  refine ⟨fun pins s σ H Dn I h => ?_⟩
  refine (k (tb' := fun Dn' σ' H' => ∃ B', B.up B' ∧ liftS X.K B' ts Dn' σ' H') hp hc hi p ⟨fun pins s σ H D I ⟨B', u, h⟩ => (hb B' u).run pins s σ H D I h⟩).run pins s σ H Dn I ?_
  obtain ⟨Z, S, Γ, fp, ofp, DD, r, h, ok⟩ := h
  refine ⟨Z, S, Γ, fp, ofp, _, r, h, fun xs S1 p1 Z1 H1 fp1 r1 l1 J hJ => ?_⟩
  refine ⟨fun i m σ' H' => m = xs.length - i ∧ i ≤ xs.length ∧ ∃ Z' S' Γ' fp' ofp', R X.K B Z' S' Γ' σ' H' fp' ofp' ∧ Z1.le Z' ∧ forL dg ts (xs.drop i) DD Γ' S',
    ⟨_, rfl, Nat.zero_le _, Z1, S1, Γ, fp1, ofp, r1, .refl _, p1⟩, ?_⟩
  rintro i m σ' H' ⟨rfl, hi, Z', S', Γ', fp', ofp', r', l', q'⟩
  obtain ⟨yes, no⟩ := hJ i Z' S' Γ' σ' H' fp' ofp' r' l'
  by_cases hlt : i < xs.length
  · have e : xs.drop i = xs[i] :: xs.drop (i + 1) := List.drop_eq_getElem_cons hlt
    rw [e] at q'
    obtain ⟨go, yld⟩ := yes xs[i] (List.getElem?_eq_getElem hlt)
    refine .inr ⟨go, fun σ2 H2 => ∃ Z' S' Γ' fp' ofp', R X.K B Z' S' Γ' σ2 H2 fp' ofp' ∧ Z1.le Z' ∧ forL dg ts (xs.drop (i + 1)) DD Γ' S', fun σ2 H2 n => ⟨xs.length - (i + 1), by omega, rfl, hlt, n⟩, fun v H2 y => ?_⟩
    obtain ⟨Z2, r2, l2, dv⟩ := yld v H2 y
    have up2 : B.up (B.at Z2) := Bs.at_up r2.ext.fl
    refine o (B.at Z2) (r2.raise (.refl _)) dv q' fun Γ3 p3 σ3 Z3 ofp3 r3 l3 => ?_
    refine ⟨B.at Z2, up2, Z3, S', Γ3, fp', ofp3, _, r3, p3, ?_⟩
    have ll : Z1.le Z2 := l'.trans l2.le
    exact ⟨fun Z4 S4 Γ4 σ4 H4 fp4 ofp4 r4 n4 => ⟨Z4, S4, Γ4, fp4, ofp4, r4.lower up2, ll.trans r4.ext.fl, n4⟩, fun Z4 S4 Γ4 σ4 H4 fp4 ofp4 r4 n4 => ok.nx Z4 S4 Γ4 σ4 H4 fp4 ofp4 (r4.lower up2) n4,
      fun Z4 S4 Γ4 σ4 H4 fp4 ofp4 r4 n4 => ⟨Z4, S4, Γ4, fp4, ofp4, r4.lower up2, ll.trans r4.ext.fl, n4⟩, fun Z4 S4 Γ4 σ4 H4 fp4 ofp4 w4 v4 r4 b4 n4 => ok.rt Z4 S4 Γ4 σ4 H4 fp4 ofp4 w4 v4 (r4.lower up2) (by cases w4 <;> exact b4) n4⟩
  · have e : xs.drop i = [] := List.drop_eq_nil_of_le (by omega)
    rw [e] at q'
    exact .inl ⟨no (List.getElem?_eq_none (by omega)), ok.nx _ _ _ _ _ _ _ r' q'⟩
end
end DL
namespace DL
open PySem PySem.Spec PyProof.Rows L2
section
variable {X : Cx} {B : Bs} {a b c e : Expr} {te : DE} {to : DA} {tt : DT} {pos : Pos} {ts tu : DS} {st : Stmt} {rest : List Stmt}
/-! ### while -/
def whileL (t : DT) (body : DS) : Nat → DS
  | 0, _, _, _ => False
  | n + 1, DD, Γ, S => t Γ S fun b S1 => (b = true → body { DD with nx := whileL t body n DD, ct := whileL t body n DD, bk := DD.nx } Γ S1) ∧ (b = false → DD.nx Γ S1)
def dWhile (t : DT) (body : DS) : DS := fun DD Γ S => ∃ n, whileL t body n DD Γ S
theorem ps_dwhile {body : List Stmt} (hp : PassesOwn (model X.prog X.w) X.A X.env X.xe) (hc : PTD X B c tt) (hb : PSsD X B body ts) : PSD X B (.While c body [] pos) (dWhile tt ts) :=
  PS.weak (ps_while hp hc hb) fun Dn σ H h => by
  obtain ⟨Z, S, Γ, fp, ofp, DD, r, ⟨n, h⟩, ok⟩ := h
  refine ⟨fun m σ' H' => ∃ Z' S' Γ' fp' ofp', R X.K B Z' S' Γ' σ' H' fp' ofp' ∧ whileL tt ts m DD Γ' S', ⟨n, Z, S, Γ, fp, ofp, r, h⟩, ?_⟩
  rintro m σ' H' ⟨Z', S', Γ', fp', ofp', r', q'⟩
  cases m with
  | zero => exact False.elim q'
  | succ m =>
    refine ⟨Z', S', Γ', fp', ofp', _, r', q', fun k S1 h1 Z1 H1 fp1 r1 l1 => ?_⟩
    cases k with
    | false => exact iteF (ok.nx _ _ _ _ _ _ _ r1 (h1.2 rfl))
    | true =>
      refine iteT ⟨fun σ2 H2 => ∃ Z2 S2 Γ2 fp2 ofp2, R X.K B Z2 S2 Γ2 σ2 H2 fp2 ofp2 ∧ whileL tt ts m DD Γ2 S2, fun σ2 H2 n => ⟨m, Nat.lt_succ_self _, n⟩, ?_⟩
      exact ⟨Z1, S1, Γ', fp1, ofp', _, r1, h1.1 rfl, ⟨fun Z4 S4 Γ4 σ4 H4 fp4 ofp4 r4 n4 => ⟨Z4, S4, Γ4, fp4, ofp4, r4, n4⟩, fun Z4 S4 Γ4 σ4 H4 fp4 ofp4 r4 n4 => ok.nx Z4 S4 Γ4 σ4 H4 fp4 ofp4 r4 n4,
        fun Z4 S4 Γ4 σ4 H4 fp4 ofp4 r4 n4 => ⟨Z4, S4, Γ4, fp4, ofp4, r4, n4⟩, fun Z4 S4 Γ4 σ4 H4 fp4 ofp4 w4 v4 r4 n4 => ok.rt Z4 S4 Γ4 σ4 H4 fp4 ofp4 w4 v4 r4 n4⟩⟩

/-! ### comprehensions -/
def wipeG (Γ : Gm) : List Nat → Gm
  | [] => Γ
  | v :: vs => (wipeG Γ vs).set v none
theorem R.wipe {K : PySem.W.Frag} {Z : Fz} {S : Sto} {Γ : Gm} {σ : L2.St} {H : Hp} {fp ofp : List Addr} (r : R K B Z S Γ σ H fp ofp) : ∀ vs : List Nat, ∃ ofp', R K B Z S (wipeG Γ vs) (L2.wipe σ vs) H fp ofp' ∧ ∀ a ∈ ofp', a ∈ ofp
  | [] => ⟨ofp, r, fun _ m => m⟩
  | v :: vs => by
    obtain ⟨o1, r1, s1⟩ := R.wipe r vs
    obtain ⟨o2, r2, s2⟩ := r1.del v none
    exact ⟨o2, r2, fun a m => s1 a (s2 a m)⟩
/-- what isn't ours is another -/
theorem R.other {K : PySem.W.Frag} {Z : Fz} {S : Sto} {Γ : Gm} {σ : L2.St} {H : Hp} {fp ofp : List Addr} (r : R K B Z S Γ σ H fp ofp) {p : Addr} {o : HO} (h1 : p ∉ fp) (h2 : p ∉ ofp) (hf : Z.F p = none) (hb : B.H p = none) : R K B Z S Γ σ (upd H p o) fp ofp := by
  have ks : ∀ a u, a ≠ p → H a = some u → upd H p o a = some u := fun a u n e => by
    rw [upd_ne n]
    exact e
  refine ⟨r.kk, fun b u e => ks _ _ (fun z => by rw [z, hf] at e; cases e) (r.fr b u e), r.st.mono (.refl _) (by have := r.kk; omega) fun a m u e => ks a u (fun z => h1 (by rw [← z]; exact m)) e,
    r.gm.mono (.refl _) fun a m u e => ks a u (fun z => h2 (by rw [← z]; exact m)) e, r.nd, r.nf, ⟨r.ext.le, r.ext.fl, fun a u e n => ks _ _ (fun z => by rw [z, hb] at e; cases e) (r.ext.keep a u e n), fun a e => ?_, r.ext.new, r.ext.frz⟩, r.of⟩
  by_cases z : a = p
  · rw [z]
    exact hb
  · rw [upd_ne z] at e
    exact r.ext.there a e
/-- the items in a row -/
def compL (dg : DG) (t : DT) (te : DE) : List D → Gm → List D → Sto → (List D → Sto → Prop) → Prop
  | [], _, acc, S, Q => Q acc S
  | x :: r, Γ, acc, S, Q => dg x Γ fun Γ1 => t Γ1 S fun b S1 => (b = true → te Γ1 S1 fun y S2 => sz (acc.length + 1) ∧ compL dg t te r Γ (acc ++ [y]) S2 Q) ∧
    (b = false → compL dg t te r Γ acc S1 Q)
def dComp (wi : DA) (dg : DG) (t : DT) (te : DE) (vs : List Nat) : DA := fun Γ S Q => wi Γ S fun xs S1 => compL dg t te xs (wipeG Γ vs) [] S1 Q
def dYes : DT := fun _ S Q => Q true S
abbrev PTsD (X : Cx) (B : Bs) (ifs : List Expr) (t : DT) : Prop := PTs X ifs (liftT X.K B t)
theorem pts_dnil : PTsD X B [] dYes := ⟨fun pins s σ H Q I h => by
  obtain ⟨Z, S, Γ, fp, ofp, P, r, h, q⟩ := h
  exact pts_nil.run pins s σ H Q I (q _ _ h Z H fp r (.refl _ _ _))⟩
theorem pts_done (h : PTD X B c tt) : PTsD X B [c] tt := pts_one h
/-- behind a stretch that went on with other slots, ours are as they were -/
theorem R.back {K : PySem.W.Frag} {Z Z1 : Fz} {S S1 : Sto} {Γ Γ1 : Gm} {σ σ1 : L2.St} {H H1 : Hp} {fp ofp fp1 ofp1 : List Addr} (r : R K B Z S Γ σ H fp ofp) (r1 : R K B Z1 S1 Γ1 σ1 H1 fp1 ofp1) (u : Up Z H fp Z1 H1 fp1) : R K B Z1 S1 Γ σ H1 fp1 ofp := by
  have nd := List.nodup_append.mp r.nd
  have nd1 := List.nodup_append.mp r1.nd
  have nfp : ∀ a ∈ ofp, a ∉ fp := fun a m z => nd.2.2 a z a m rfl
  have th : ∀ a ∈ ofp, ∃ o, H a = some o := fun a m => r.ownThere a (List.mem_append_right _ m)
  refine ⟨r1.kk, r1.fr, r1.st, r.gm.mono u.le fun a m o e => u.keep a o e (nfp a m), List.nodup_append.mpr ⟨nd1.1, nd.2.1, fun a ma b mb e => ?_⟩, fun a m => ?_, ⟨r1.ext.le, r1.ext.fl, r1.ext.keep, r1.ext.there, fun a m => ?_, r1.ext.frz⟩, r.of⟩
  · subst e
    rcases u.new a ma with z | z
    · exact nfp a mb z
    · obtain ⟨o, e⟩ := th a mb
      rw [z] at e
      cases e
  · rcases List.mem_append.mp m with m | m
    · exact r1.nf a (List.mem_append_left _ m)
    · cases q : Z1.F a with
      | none => rfl
      | some o =>
        rcases u.frz a (r.nf a (List.mem_append_right _ m)) (by rw [q]; simp) with z | z
        · obtain ⟨o, e⟩ := th a m
          rw [z] at e
          cases e
        · exact absurd z (nfp a m)
  · rcases List.mem_append.mp m with m | m
    · exact r1.ext.new a (List.mem_append_left _ m)
    · exact .inr (r.of a m)
/-- a target of a comprehension keeps the others -/
def GComp (K : PySem.W.Frag) (B : Bs) (vs : List Nat) (g : TG) (dg : DG) : Prop :=
  ∀ {Z : Fz} {S : Sto} {Γ : Gm} {σ : L2.St} {H : Hp} {fp ofp : List Addr} {v : V} {x : D} {P : Gm → Prop} {Q : L2.St → Hp → Prop}, R K B Z S (wipeG Γ vs) (L2.wipe σ vs) H fp ofp → DV K Z v x → dg x (wipeG Γ vs) P →
    (∀ Γ', P Γ' → ∀ σ' ofp', R K B Z S Γ' σ' H fp ofp' → L2.wipe σ' vs = L2.wipe σ vs → wipeG Γ' vs = wipeG Γ vs → (∀ a ∈ ofp', a ∈ ofp) → Q σ' H) → g v (L2.wipe σ vs) H Q
theorem pf_comp {K : PySem.W.Frag} {vs : List Nat} {wi : DA} {g : TG} {dg : DG} (gc : GComp K B vs g dg)
    (σ : L2.St) (H : Hp) (Q : VK) (h : liftO K B (dComp wi dg tt te vs) σ H Q) : tLc (liftI K B wi) g (liftT K B tt) (liftD K B te) vs σ H Q := by
  obtain ⟨Z, S, Γ, fp, ofp, P, r, h, q⟩ := h
  refine ⟨Z, S, Γ, fp, ofp, _, r, h, fun xs S1 p1 Z1 H1 fp1 r1 l1 J hJ => fun Dl hD => ?_⟩
  obtain ⟨nd1, nd2, nd3, nd4⟩ := r1.fresh hD
  obtain ⟨o0, r0, s0⟩ := r1.wipe vs
  have W0 : Up Z1 H1 fp1 Z1 (upd H1 Dl (.lst [])) fp1 := Up.grow hD
  refine ⟨fun i m H' => m = xs.length - i ∧ i ≤ xs.length ∧ ∃ Z' S' fp' ofp' acc accV, R K B Z' S' (wipeG Γ vs) (L2.wipe σ vs) H' fp' ofp' ∧ Up Z1 H1 fp1 Z' H' fp' ∧
      H' Dl = some (.lst accV) ∧ DVs K Z' accV acc ∧ Dl ∉ fp' ∧ Dl ∉ ofp' ∧ Z'.F Dl = none ∧ compL dg tt te (xs.drop i) (wipeG Γ vs) acc S' P,
    ⟨_, rfl, Nat.zero_le _, Z1, S1, fp1, o0, [], [], r0.grow hD, W0, upd_same, .nil, nd1, fun m => nd2 (s0 _ m), nd3, p1⟩, ?_⟩
  rintro i m H' ⟨rfl, hi, Z', S', fp', ofp', acc, accV, r', u', eD, dD, n1, n2, n3, c'⟩
  obtain ⟨yes, no⟩ := hJ i Z' S' _ _ H' fp' ofp' r' u'.le
  by_cases hlt : i < xs.length
  · have e : xs.drop i = xs[i] :: xs.drop (i + 1) := List.drop_eq_getElem_cons hlt
    rw [e] at c'
    obtain ⟨go, yld⟩ := yes xs[i] (List.getElem?_eq_getElem hlt)
    refine .inr ⟨go, fun H2 => ∃ Z' S' fp' ofp' acc accV, R K B Z' S' (wipeG Γ vs) (L2.wipe σ vs) H2 fp' ofp' ∧ Up Z1 H1 fp1 Z' H2 fp' ∧
      H2 Dl = some (.lst accV) ∧ DVs K Z' accV acc ∧ Dl ∉ fp' ∧ Dl ∉ ofp' ∧ Z'.F Dl = none ∧ compL dg tt te (xs.drop (i + 1)) (wipeG Γ vs) acc S' P, fun H2 n => ⟨xs.length - (i + 1), by omega, rfl, hlt, n⟩, fun v H2 y => ?_⟩
    obtain ⟨Z2, r2, u2, dv⟩ := yld v H2 y
    refine gc r2 dv c' fun Γ3 p3 σ3 ofp3 r3 w3 w3' sub3 => ⟨w3, ?_⟩
    refine ⟨Z2, S', Γ3, fp', ofp3, _, r3, p3, fun k S4 h4 Z4 H4 fp4 r4 u4 => ?_⟩
    have frzD : ∀ {Zb : Fz} {Hb : Hp} {fpb : List Addr}, Up Z' H' fp' Zb Hb fpb → Zb.F Dl = none := fun {Zb Hb fpb} u => by
      cases qq : Zb.F Dl with
      | none => rfl
      | some o =>
        rcases u.frz Dl n3 (by rw [qq]; simp) with z | z
        · rw [z] at eD
          cases eD
        · exact absurd z n1
    have nfp : ∀ {Zb : Fz} {Hb : Hp} {fpb : List Addr}, Up Z' H' fp' Zb Hb fpb → Dl ∉ fpb := fun {Zb Hb fpb} u m => by
      rcases u.new Dl m with z | z
      · exact n1 z
      · rw [z] at eD
        cases eD
    cases k with
    | true =>
      refine iteT ?_
      refine ⟨Z4, S4, Γ3, fp4, ofp3, _, r4, h4.1 rfl, fun y5 S5 h5 Z5 H5 fp5 v5 r5 u5 dv5 => ?_⟩
      have uu := (u2.trans u4).trans u5
      have e5 := uu.keep Dl _ eD n1
      obtain ⟨hz, h5⟩ := h5
      refine ⟨accV, e5, by rw [dD.length]; exact Nat.lt_of_lt_of_le (Nat.lt_succ_self _) hz.ok, ?_⟩
      obtain ⟨o6, r6, s6⟩ := r5.wipe vs
      rw [w3, w3'] at r6
      have no6 : Dl ∉ o6 := fun m => n2 (sub3 _ (s6 _ m))
      refine ⟨Z5, S5, fp5, o6, acc ++ [y5], accV ++ [v5], r6.other (nfp uu) no6 (frzD uu) (r1.ext.there Dl hD), ?_, upd_same, (dD.mono uu.le).append (.cons dv5 .nil), nfp uu, no6, frzD uu, h5⟩
      have ut := u'.trans uu
      refine ⟨ut.le, fun a o ea na => ?_, ut.new, fun a ea => ?_, ut.frz⟩
      · rw [upd_ne (ne_of_none ea hD)]
        exact ut.keep a o ea na
      · by_cases z : a = Dl
        · rw [z]
          exact hD
        · rw [upd_ne z] at ea
          exact ut.there a ea
    | false =>
      refine iteF ?_
      have uu := u2.trans u4
      have e5 := uu.keep Dl _ eD n1
      obtain ⟨o6, r6, s6⟩ := r4.wipe vs
      rw [w3, w3'] at r6
      exact ⟨Z4, S4, fp4, o6, acc, accV, r6, u'.trans uu, e5, dD.mono uu.le, nfp uu, fun m => n2 (sub3 _ (s6 _ m)), frzD uu, h4.2 rfl⟩
  · have e : xs.drop i = [] := List.drop_eq_nil_of_le (by omega)
    rw [e] at c'
    refine .inl ⟨no (List.getElem?_eq_none (by omega)), ?_⟩
    exact q acc S' c' Z' H' fp' Dl accV (r1.back r' u') (l1.trans u') eD dD n3 n1 nd2 (l1.there _ hD)
theorem pf_lc {elt tg iter : Expr} {ifs : List Expr} {scope : Scope} {own : List (Str × Nat)} {wi : DA} {g : TG} {dg : DG} (hc : X.calm = true) (hN : X.N.Nodup) (hi : PID X B tg iter wi) (ok : BlkOk X.N X.env.scope scope own)
    (hg : ∀ (s : Shared) (H : Hp) (C : Addr) (cl : List (Str × Addr)) (fp : List Addr), PG (X.blk s H scope (compEnvC scope cl C X.env) fp) tg g) (gc : GComp X.K B (own.map (·.2)) g dg)
    (ht : ∀ (s : Shared) (H : Hp) (C : Addr) (cl : List (Str × Addr)) (fp : List Addr), PTs (X.blk s H scope (compEnvC scope cl C X.env) fp) ifs (liftT X.K B tt))
    (he : ∀ (s : Shared) (H : Hp) (C : Addr) (cl : List (Str × Addr)) (fp : List Addr), PE (X.blk s H scope (compEnvC scope cl C X.env) fp) elt (liftD X.K B te))
    (k : ∀ {wi' : TI} {g' : TG} {tt' : TT} {te' : TE}, X.calm = true → X.N.Nodup → BlkOk X.N X.env.scope scope own → PI X tg iter wi' → (∀ (s : Shared) (H : Hp) (C : Addr) (cl : List (Str × Addr)) (fp : List Addr), PG (X.blk s H scope (compEnvC scope cl C X.env) fp) tg g') →
      (∀ (s : Shared) (H : Hp) (C : Addr) (cl : List (Str × Addr)) (fp : List Addr), PTs (X.blk s H scope (compEnvC scope cl C X.env) fp) ifs tt') → (∀ (s : Shared) (H : Hp) (C : Addr) (cl : List (Str × Addr)) (fp : List Addr), PE (X.blk s H scope (compEnvC scope cl C X.env) fp) elt te') →
      PE X (.ListComp elt [⟨tg, iter, ifs, 0⟩] scope pos) (tLc wi' g' tt' te' (own.map (·.2))) := by exact fun h1 h2 h3 a b c d => pe_lc h1 h2 a h3 b c d) :
    PF X B (.ListComp elt [⟨tg, iter, ifs, 0⟩] scope pos) (dComp wi dg tt te (own.map (·.2))) := PE.weak (k hc hN ok hi hg ht he) (pf_comp gc)
/-- x = [..] -/
theorem ps_dsetLc {st : Stmt} {i : Nat} {t : TE} (h : PS X st (tAsg t (gName i))) (k : ∀ σ H Q, liftO X.K B to σ H Q → t σ H Q) : PSD X B st (dSetF i to) := PS.weak h fun Dn σ H h => by
  obtain ⟨Z, S, Γ, fp, ofp, DD, r, h, ok⟩ := h
  refine k σ H (fun x H1 => Dn.nx (σ.set i (some x)) H1) ⟨Z, S, Γ, fp, ofp, _, r, h, fun ds S' p Z' H' fp' a xs r' l e1 d1 n1 n2 n3 n4 => ?_⟩
  obtain ⟨ofp', r2⟩ := r'.setO i e1 d1 n1 n2 n3 (r.ext.there _ n4)
  exact ok.nx _ _ _ _ _ _ _ r2 p
/-- .. frozen at once -/
def dSetZ (i : Nat) (to : DA) : DS := dSet i (dFz to)
theorem fz_o {K : PySem.W.Frag} {σ : L2.St} {H : Hp} {Q : VK} (h : liftD K B (dFz to) σ H Q) : liftO K B to σ H Q := by
  obtain ⟨Z, S, Γ, fp, ofp, P, r0, h, q⟩ := h
  refine ⟨Z, S, Γ, fp, ofp, _, r0, h, fun ds S1 h1 Z1 H1 fp1 p xs r1 l1 e1 b1 hf n1 n2 n3 => ?_⟩
  exact q _ S1 h1 _ H1 fp1 _ (r1.freeze e1 hf n1 n2 (r0.ext.there _ n3)) (l1.addF n3 hf) (.lst (SqL.of (show upd Z1.F p (.lst xs) p = _ from upd_same)) (b1.mono (le_frz hf)))
theorem ps_dsetLcZ {st : Stmt} {i : Nat} {t : TE} (h : PS X st (tAsg t (gName i))) (k : ∀ σ H Q, liftO X.K B to σ H Q → t σ H Q) : PSD X B st (dSetZ i to) := PS.weak h fun Dn σ H h => by
  obtain ⟨Z, S, Γ, fp, ofp, DD, r, h, ok⟩ := h
  have h : dFz to Γ S (fun x S1 => DD.nx (Γ.set i (some (.d x))) S1) := h
  refine k σ H (fun x H1 => Dn.nx (σ.set i (some x)) H1) (fz_o ⟨Z, S, Γ, fp, ofp, _, r, h, fun d S' p Z' H' fp' v r' l dv => ?_⟩)
  obtain ⟨ofp', r2, _⟩ := r'.setD i dv
  exact ok.nx _ _ _ _ _ _ _ r2 p
/-- a target that is one name -/
theorem wipe_setN : ∀ (σ : L2.St) (vs : List Nat) (i : Nat) (x : Option V), i ∈ vs → L2.wipe (σ.set i x) vs = L2.wipe σ vs := by
  intro σ vs
  induction vs with
  | nil => intro i x h; cases h
  | cons v vs ih =>
    intro i x h
    show (L2.wipe (σ.set i x) vs).set v none = (L2.wipe σ vs).set v none
    by_cases hm : i ∈ vs
    · rw [ih i x hm]
    · have e : i = v := (List.mem_cons.mp h).resolve_right hm
      subst e
      have ss : ∀ ws : List Nat, i ∉ ws → ∀ σ : L2.St, L2.wipe (σ.set i x) ws = (L2.wipe σ ws).set i x := by
        intro ws
        induction ws with
        | nil => intro _ σ; rfl
        | cons w ws ih2 =>
          intro hn σ
          show (L2.wipe (σ.set i x) ws).set w none = ((L2.wipe σ ws).set w none).set i x
          rw [ih2 (fun z => hn (List.mem_cons_of_mem _ z)) σ]
          exact List.set_comm _ _ (fun z => hn (by rw [z]; exact List.mem_cons_self))
      rw [ss vs hm σ, List.set_set]
theorem wipeG_setN : ∀ (σ : Gm) (vs : List Nat) (i : Nat) (x : Option W), i ∈ vs → wipeG (σ.set i x) vs = wipeG σ vs := by
  intro σ vs
  induction vs with
  | nil => intro i x h; cases h
  | cons v vs ih =>
    intro i x h
    show (wipeG (σ.set i x) vs).set v none = (wipeG σ vs).set v none
    by_cases hm : i ∈ vs
    · rw [ih i x hm]
    · have e : i = v := (List.mem_cons.mp h).resolve_right hm
      subst e
      have ss : ∀ ws : List Nat, i ∉ ws → ∀ σ : Gm, wipeG (σ.set i x) ws = (wipeG σ ws).set i x := by
        intro ws
        induction ws with
        | nil => intro _ σ; rfl
        | cons w ws ih2 =>
          intro hn σ
          show (wipeG (σ.set i x) ws).set w none = ((wipeG σ ws).set w none).set i x
          rw [ih2 (fun z => hn (List.mem_cons_of_mem _ z)) σ]
          exact List.set_comm _ _ (fun z => hn (by rw [z]; exact List.mem_cons_self))
      rw [ss vs hm σ, List.set_set]
theorem set_self_id {α : Type} : ∀ (l : List α) (i : Nat) (x : α), l[i]? = some x → l.set i x = l
  | [], _, _, _ => rfl
  | y :: l, 0, x, h => by
    have e : y = x := Option.some.inj h
    rw [e]
    rfl
  | y :: l, i + 1, x, h => by
    show y :: l.set i x = y :: l
    rw [set_self_id l i x h]
theorem wipe_len (σ : L2.St) : ∀ vs, (L2.wipe σ vs).length = σ.length
  | [] => rfl
  | v :: vs => by
    show ((L2.wipe σ vs).set v none).length = _
    rw [List.length_set, wipe_len σ vs]
theorem wipeG_len (σ : Gm) : ∀ vs, (wipeG σ vs).length = σ.length
  | [] => rfl
  | v :: vs => by
    show ((wipeG σ vs).set v none).length = _
    rw [List.length_set, wipeG_len σ vs]
theorem wipe_idem (σ : L2.St) (vs : List Nat) : L2.wipe (L2.wipe σ vs) vs = L2.wipe σ vs := by
  have h : ∀ ws : List Nat, (∀ w ∈ ws, w ∈ vs) → L2.wipe (L2.wipe σ ws) vs = L2.wipe σ vs := by
    intro ws
    induction ws with
    | nil => intro _; rfl
    | cons w ws ih =>
      intro hs
      show L2.wipe ((L2.wipe σ ws).set w none) vs = _
      rw [wipe_setN _ vs w none (hs w List.mem_cons_self)]
      exact ih fun z m => hs z (List.mem_cons_of_mem _ m)
  exact h vs fun _ m => m
theorem wipeG_idem (σ : Gm) (vs : List Nat) : wipeG (wipeG σ vs) vs = wipeG σ vs := by
  have h : ∀ ws : List Nat, (∀ w ∈ ws, w ∈ vs) → wipeG (wipeG σ ws) vs = wipeG σ vs := by
    intro ws
    induction ws with
    | nil => intro _; rfl
    | cons w ws ih =>
      intro hs
      show wipeG ((wipeG σ ws).set w none) vs = _
      rw [wipeG_setN _ vs w none (hs w List.mem_cons_self)]
      exact ih fun z m => hs z (List.mem_cons_of_mem _ m)
  exact h vs fun _ m => m
/-- the slots hold, the own ones forgotten -/
structure Keeps (vs : List Nat) (σ σ' : L2.St) (Γ Γ' : Gm) (ofp ofp' : List Addr) : Prop where
  s : L2.wipe σ' vs = L2.wipe σ vs
  g : wipeG Γ' vs = wipeG Γ vs
  o : ∀ a ∈ ofp', a ∈ ofp
def GC (K : PySem.W.Frag) (B : Bs) (vs : List Nat) (g : TG) (dg : DG) : Prop :=
  ∀ {Z : Fz} {S : Sto} {Γ : Gm} {σ : L2.St} {H : Hp} {fp ofp : List Addr} {v : V} {x : D} {P : Gm → Prop} {Q : L2.St → Hp → Prop}, R K B Z S Γ σ H fp ofp → DV K Z v x → dg x Γ P →
    (∀ Γ', P Γ' → ∀ σ' ofp', R K B Z S Γ' σ' H fp ofp' → Keeps vs σ σ' Γ Γ' ofp ofp' → Q σ' H) → g v σ H Q
def GCs (K : PySem.W.Frag) (B : Bs) (vs : List Nat) (g : TGs) (dg : DGs) : Prop :=
  ∀ {Z : Fz} {S : Sto} {Γ : Gm} {σ : L2.St} {H : Hp} {fp ofp : List Addr} {us : List V} {xs : List D} {P : Gm → Prop} {Q : L2.St → Hp → Prop}, R K B Z S Γ σ H fp ofp → DVs K Z us xs → dg xs Γ P →
    (∀ Γ', P Γ' → ∀ σ' ofp', R K B Z S Γ' σ' H fp ofp' → Keeps vs σ σ' Γ Γ' ofp ofp' → Q σ' H) → g us σ H Q
theorem gc_of {K : PySem.W.Frag} {vs : List Nat} {g : TG} {dg : DG} (h : GC K B vs g dg) : GComp K B vs g dg := fun {Z S Γ σ H fp ofp v x P Q} r dv hd q =>
  h r dv hd fun Γ' p σ' ofp' r' k => q Γ' p σ' ofp' r' (k.s.trans (wipe_idem _ _)) (k.g.trans (wipeG_idem _ _)) k.o
theorem gc_name {K : PySem.W.Frag} {vs : List Nat} (i : Nat) (hi : i ∈ vs) : GC K B vs (gName i) (dgName i) := fun {Z S Γ σ H fp ofp v x P Q} r dv hd q => by
  obtain ⟨ofp', r2, s2⟩ := r.setD i dv
  exact q _ hd _ _ r2 ⟨wipe_setN _ _ _ _ hi, wipeG_setN _ _ _ _ hi, s2⟩
theorem gcs_nil {K : PySem.W.Frag} {vs : List Nat} : GCs K B vs gNil dgNil := fun {Z S Γ σ H fp ofp us xs P Q} r dv hd q => by
  cases dv with
  | nil => exact ⟨rfl, q _ hd _ _ r ⟨rfl, rfl, fun _ m => m⟩⟩
  | cons _ _ => exact False.elim hd
theorem gcs_cons {K : PySem.W.Frag} {vs : List Nat} {g : TG} {dg : DG} {gs : TGs} {dr : DGs} (h1 : GC K B vs g dg) (h2 : GCs K B vs gs dr) : GCs K B vs (gCons g gs) (dgCons dg dr) := fun {Z S Γ σ H fp ofp us xs P Q} r dv hd q => by
  cases dv with
  | nil => exact False.elim hd
  | cons d1 d2 => exact ⟨_, _, rfl, h1 r d1 hd fun Γ' p' σ' ofp' r' k' => h2 r' d2 p' fun Γ2 p2 σ2 ofp2 r2 k2 => q _ p2 _ _ r2 ⟨k2.s.trans k'.s, k2.g.trans k'.g, fun a m => k'.o a (k2.o a m)⟩⟩
theorem gc_tup {K : PySem.W.Frag} {vs : List Nat} {n : Nat} {gs : TGs} {dr : DGs} (h : GCs K B vs gs dr) : GC K B vs (gTup K n gs) (dgTup n dr) := fun {Z S Γ σ H fp ofp v x P Q} r dv hd q => by
  cases dv with
  | tup h1 h2 =>
    obtain ⟨e, hd⟩ := hd
    exact ⟨_, _, rfl, same_sqT r.fr h1, by rw [h2.length]; exact e, h r h2 hd q⟩
  | _ => exact False.elim hd
end
end DL
namespace DL
open PySem PySem.Spec PyProof.Rows L2
/-! ### a def's promise on data -/
abbrev DSpec := List D → Sto → (W → Sto → Prop) → (Value → Sto → Prop) → Prop
structure St0 (K : PySem.W.Frag) (Z : Fz) (S : Sto) (H : Hp) (fp : List Addr) : Prop where
  kk : Z.k = S.length
  fr : ∀ a o, Z.F a = some o → H a = some o
  st : SR K Z H 0 S fp
  nd : fp.Nodup
  nf : ∀ a ∈ fp, Z.F a = none
def WBack (K : PySem.W.Frag) (Z : Fz) (H0 H : Hp) (fp : List Addr) : V → W → Prop
  | v, .d x => DV K Z v x
  | v, .own ds => ∃ a xs, v = .ref a ∧ H a = some (.lst xs) ∧ DVs K Z xs ds ∧ Z.F a = none ∧ a ∉ fp ∧ H0 a = none
def spS (K : PySem.W.Frag) (g : DSpec) : Sp := fun vs H Q E => ∃ Z S fp ds P EP, St0 K Z S H fp ∧ DVs K Z vs ds ∧ g ds S P EP ∧
  (∀ w S', P w S' → ∀ Z' H' fp' v, St0 K Z' S' H' fp' → Up Z H fp Z' H' fp' → WBack K Z' H H' fp' v w → Q v H') ∧
  (∀ c S', EP c S' → ∀ Z' H' fp', St0 K Z' S' H' fp' → Up Z H fp Z' H' fp' → E c none H')
section
variable {K : PySem.W.Frag} {B : Bs} {Z : Fz} {S : Sto} {Γ : Gm} {σ : L2.St} {H : Hp} {fp ofp : List Addr}
theorem R.st0 (r : R K B Z S Γ σ H fp ofp) : St0 K Z S H fp := ⟨r.kk, r.fr, r.st, (List.nodup_append.mp r.nd).1, fun a m => r.nf a (List.mem_append_left _ m)⟩
theorem R.up (r : R K B Z S Γ σ H fp ofp) : Up B.Z B.H B.fp Z H fp := ⟨r.ext.le, r.ext.keep, fun a m => r.ext.new a (List.mem_append_left _ m), r.ext.there, r.ext.frz⟩
def startG (n : Nat) (ds : List D) : Gm := ds.map (fun d => some (.d d)) ++ List.replicate (n - ds.length) none
theorem gr_none : ∀ n, GR K Z H (List.replicate n none) (List.replicate n none) []
  | 0 => .nil
  | n + 1 => .gn (gr_none n)
theorem gr_start : ∀ {vs : List V} {ds : List D} (n : Nat), DVs K Z vs ds → GR K Z H (vs.map some ++ List.replicate n none) (ds.map (fun d => some (.d d)) ++ List.replicate n none) []
  | _, _, n, .nil => gr_none n
  | _, _, n, .cons h q => by
    have g := GR.gs (WR.d (H := H) h) (gr_start n q)
    exact g
theorem R.entry {vs : List V} {ds : List D} {N : List Str} (s0 : St0 K Z S H fp) (d : DVs K Z vs ds) : R K ⟨Z, H, fp, Z⟩ Z S (startG N.length ds) (L2.start N vs) H fp [] := by
  refine ⟨s0.kk, s0.fr, s0.st, ?_, by rw [List.append_nil]; exact s0.nd, fun a m => s0.nf a (by rw [List.append_nil] at m; exact m), ⟨.refl _, .refl _, fun _ _ h _ => h, fun _ h => h, fun a m => .inl (by rw [List.append_nil] at m; exact m), fun a h n => absurd h n⟩, fun a m => by cases m⟩
  unfold startG L2.start
  rw [d.length]
  exact gr_start _ d
/-- behind a call -/
theorem R.called (r : R K B Z S Γ σ H fp ofp) {Z1 : Fz} {S1 : Sto} {H1 : Hp} {fp1 : List Addr} (s1 : St0 K Z1 S1 H1 fp1) (u : Up Z H fp Z1 H1 fp1) : R K B Z1 S1 Γ σ H1 fp1 ofp := by
  have nd := List.nodup_append.mp r.nd
  have nfp : ∀ a ∈ ofp, a ∉ fp := fun a m z => nd.2.2 a z a m rfl
  have th : ∀ a ∈ ofp, ∃ o, H a = some o := fun a m => r.ownThere a (List.mem_append_right _ m)
  have bt := r.up
  have bu := bt.trans u
  refine ⟨s1.kk, s1.fr, s1.st, r.gm.mono u.le fun a m o e => u.keep a o e (nfp a m), List.nodup_append.mpr ⟨s1.nd, nd.2.1, fun a ma b mb e => ?_⟩, fun a m => ?_, ⟨bu.le, r.ext.fl.trans u.le, bu.keep, bu.there, fun a m => ?_, bu.frz⟩, r.of⟩
  · subst e
    rcases u.new a ma with z | z
    · exact nfp a mb z
    · obtain ⟨o, e⟩ := th a mb
      rw [z] at e
      cases e
  · rcases List.mem_append.mp m with m | m
    · exact s1.nf a m
    · cases q : Z1.F a with
      | none => rfl
      | some o =>
        rcases u.frz a (r.nf a (List.mem_append_right _ m)) (by rw [q]; simp) with z | z
        · obtain ⟨o, e⟩ := th a m
          rw [z] at e
          cases e
        · exact absurd z (nfp a m)
  · rcases List.mem_append.mp m with m | m
    · exact bu.new a m
    · exact .inr (r.of a m)
end

/-! ### what is raised -/
abbrev EW := Value → Gm → Sto → Prop
structure DX (X : Cx) (B : Bs) (w : WX) (ew : EW) : Prop where
  tk : Takes X w
  ok : ∀ Z S Γ σ H fp ofp c, R X.K B Z S Γ σ H fp ofp → ew c Γ S → w c none σ H
abbrev ew0 : EW := fun _ _ _ => False
abbrev w0 : WX := fun _ _ _ _ => False
theorem dx0 {X : Cx} {B : Bs} : DX X B w0 ew0 := ⟨takes0, fun _ _ _ _ _ _ _ _ _ h => h.elim⟩
theorem DX.up {X : Cx} {B B' : Bs} {w : WX} {ew : EW} (dx : DX X B w ew) (u : B.up B') : DX X B' w ew := ⟨dx.tk, fun Z S Γ σ H fp ofp c r h => dx.ok Z S Γ σ H fp ofp c (r.lower u) h⟩

section
variable {X : Cx} {B : Bs} {a b c e : Expr} {te : DE} {to : DA} {tt : DT} {pos : Pos} {ts tu : DS} {st : Stmt} {rest : List Stmt} {es : List Expr} {tr : DA} {w : WX} {ew : EW}
def backD (Q : D → Sto → Prop) : W → Sto → Prop
  | .d x, S => Q x S
  | .own ds, S => Q (.lst ds) S
def backF (Q : List D → Sto → Prop) : W → Sto → Prop
  | .own ds, S => Q ds S
  | .d _, _ => False
def dCallS (g : DSpec) (ew : EW) (tr : DA) : DE := fun Γ S Q => tr Γ S fun ds S1 => g ds S1 (backD Q) fun c S2 => ew c Γ S2
def dCallSF (g : DSpec) (ew : EW) (tr : DA) : DA := fun Γ S Q => tr Γ S fun ds S1 => g ds S1 (backF Q) fun c S2 => ew c Γ S2
theorem call_run {g : DSpec} {E : L2.St → XK} (dx : DX X B w ew) {σ : L2.St} {H : Hp} {Q : VK} {t : TA} (ht : ∀ Q', liftA X.K B tr σ H Q' → t σ H Q') (h : liftD X.K B (dCallS g ew tr) σ H Q) : tCallS (spS X.K g) (WE w) t σ H Q := by
  obtain ⟨Z, S, Γ, fp, ofp, P, r, h, q⟩ := h
  refine ht _ ⟨Z, S, Γ, fp, ofp, _, r, h, fun ds S1 h1 Z1 H1 fp1 vs r1 u1 d1 => ?_⟩
  refine ⟨Z1, S1, fp1, ds, _, _, r1.st0, d1, h1, fun w2 S2 p2 Z2 H2 fp2 v2 s2 u2 b2 => ?_, fun c S2 p2 Z2 H2 fp2 s2 u2 => ?_⟩
  · have r2 := r1.called s2 u2
    cases w2 with
    | d x => exact q x S2 p2 Z2 H2 fp2 v2 r2 (u1.trans u2) b2
    | own es =>
      obtain ⟨a, xs, rfl, e2, d2, n1, n2, n3⟩ := b2
      have ut := u1.trans u2
      have na : a ∉ ofp := fun m => by
        obtain ⟨o, e⟩ := r1.ownThere a (List.mem_append_right _ m)
        rw [n3] at e
        cases e
      have n4 := u1.there a n3
      exact q _ S2 p2 _ H2 fp2 _ (r2.freeze e2 n1 n2 na (r.ext.there _ n4)) (ut.addF n4 n1) (.lst (SqL.of (show upd Z2.F a (.lst xs) a = _ from upd_same)) (d2.mono (le_frz n1)))
  · exact dx.ok _ _ _ _ _ _ _ _ (r1.called s2 u2) p2
theorem callF_run {g : DSpec} (dx : DX X B w ew) {σ : L2.St} {H : Hp} {Q : VK} {t : TA} (ht : ∀ Q', liftA X.K B tr σ H Q' → t σ H Q') (h : liftO X.K B (dCallSF g ew tr) σ H Q) : tCallS (spS X.K g) (WE w) t σ H Q := by
  obtain ⟨Z, S, Γ, fp, ofp, P, r, h, q⟩ := h
  refine ht _ ⟨Z, S, Γ, fp, ofp, _, r, h, fun ds S1 h1 Z1 H1 fp1 vs r1 u1 d1 => ?_⟩
  refine ⟨Z1, S1, fp1, ds, _, _, r1.st0, d1, h1, fun w2 S2 p2 Z2 H2 fp2 v2 s2 u2 b2 => ?_, fun c S2 p2 Z2 H2 fp2 s2 u2 => ?_⟩
  · have r2 := r1.called s2 u2
    cases w2 with
    | d x => exact False.elim p2
    | own es =>
      obtain ⟨a, xs, rfl, e2, d2, n1, n2, n3⟩ := b2
      have na : a ∉ ofp := fun m => by
        obtain ⟨o, e⟩ := r1.ownThere a (List.mem_append_right _ m)
        rw [n3] at e
        cases e
      exact q _ S2 p2 _ H2 fp2 _ _ r2 (u1.trans u2) e2 d2 n1 n2 na (u1.there a n3)
  · exact dx.ok _ _ _ _ _ _ _ _ (r1.called s2 u2) p2
variable {k : Nat} {f : Addr} {fd : FuncData} {ps : List Str} {g : DSpec} {x : Str} {p : Pos}
theorem pd_call (dx : DX X B w ew) (F : FnOk X.prog X.w X.K X.mg X.base (L2.CX X.prog X.w) k f fd ps (spS X.K g)) (hr : Room k X.A) (hm : X.mg x = some (.ref f)) (hk : PySem.W.keepIn X.K (.ref f) = true) (hb : Binds X.K fd ps []) (ha : PAD X B (e :: es) tr)
    (hg : Gl X x := by rfl) (hdb : (x == ("__debug__" : Str)) = false := by decide) (he : starEach (e :: es) X.env = (false, eval e X.env) :: starEach es X.env := by rfl) (hpl : (backTo pos (starEach es X.env)).any (·.1) = false := by rfl) :
    PD X B (.Call (.Name x p) (e :: es) [] pos) (dCallS g ew tr) := PE.weak (pe_callS F hr hg hm hk hb (fun σ => passAt dx.tk σ) ha hdb he hpl) fun σ H Q h => call_run (E := WE w) dx (fun _ h => h) h
theorem pf_call (dx : DX X B w ew) (F : FnOk X.prog X.w X.K X.mg X.base (L2.CX X.prog X.w) k f fd ps (spS X.K g)) (hr : Room k X.A) (hm : X.mg x = some (.ref f)) (hk : PySem.W.keepIn X.K (.ref f) = true) (hb : Binds X.K fd ps []) (ha : PAD X B (e :: es) tr)
    (hg : Gl X x := by rfl) (hdb : (x == ("__debug__" : Str)) = false := by decide) (he : starEach (e :: es) X.env = (false, eval e X.env) :: starEach es X.env := by rfl) (hpl : (backTo pos (starEach es X.env)).any (·.1) = false := by rfl) :
    PF X B (.Call (.Name x p) (e :: es) [] pos) (dCallSF g ew tr) := PE.weak (pe_callS F hr hg hm hk hb (fun σ => passAt dx.tk σ) ha hdb he hpl) fun σ H Q h => callF_run dx (fun _ h => h) h
/-- f(): no argument -/
theorem pd_call0 (F : FnOk X.prog X.w X.K X.mg X.base (L2.CX X.prog X.w) k f fd ps (spS X.K g)) (hr : Room k X.A) (hm : X.mg x = some (.ref f)) (hk : PySem.W.keepIn X.K (.ref f) = true) (hb : Binds X.K fd ps [])
    (hg : Gl X x := by rfl) (hdb : (x == ("__debug__" : Str)) = false := by decide) : PD X B (.Call (.Name x p) [] [] pos) (dCallS g ew0 dNil) :=
  PE.weak (pe_call0 F hr hg hm hk hb .nil passL hdb) fun σ H Q h => by
    have h2 := call_run (E := WE w0) (dx0 (X := X) (B := B)) (t := tNil) (tr := dNil) (fun Q' h => by
      obtain ⟨Z, S, Γ, fp, ofp, P, r, h, q⟩ := h
      exact q _ _ h Z H fp [] r (.refl _ _ _) .nil) h
    exact h2

/-! ### a def -/
theorem fun_ok {P : Program} {wd : World} {K : PySem.W.Frag} {mg : Str → Option Value} {base : Heap} {qual : Str} {N : List Str} {j : Nat}
    (F : Fun K x qual st f fd) (Sc : FnScope N ps (defScope st)) (len : ∀ ds S P EP, g ds S P EP → ds.length = ps.length)
    (body : ∀ (cdv : Value) (A : Around) (outer : List Env) (s : Shared) (H : Hp) (E : XK) (B : Bs) (P0 : W → Sto → Prop) (EP : Value → Sto → Prop) (ds : List D) (S : Sto), Room j (A.deeper (envOfC qual (defScope st) s.heap.objs.size f cdv)) →
      DX (cxOf (L2.CX P wd) P wd K mg base N qual (defScope st) f cdv A outer s H E) B (fun cls d _ H => E cls d H) (fun c _ S => EP c S) → g ds S P0 EP →
      ∃ ts, PSsD (cxOf (L2.CX P wd) P wd K mg base N qual (defScope st) f cdv A outer s H E) B (defBody st) ts ∧ ts { nx := fun _ S' => P0 (.d .non) S', rt := P0 } (startG N.length ds) S) :
    FnOk P wd K mg base (L2.CX P wd) (j + 1) f fd ps (spS K g) := by
  refine F.okX Sc (fun vs H Q E h => ?_) (fun cdv A outer s H vs Q E hr h => ?_)
  · obtain ⟨Z, S, fp, ds, P0, EP, s0, d, h, _⟩ := h
    rw [d.length]
    exact len _ _ _ _ h
  · obtain ⟨Z, S, fp, ds, P0, EP, s0, d, h, q, qe⟩ := h
    obtain ⟨ts, hts, hh⟩ := body cdv A outer s H E ⟨Z, H, fp, Z⟩ P0 EP ds S hr ⟨takes_of rfl rfl rfl rfl, fun Z1 S1 Γ1 σ1 H1 fp1 ofp1 c r1 p1 => qe c S1 p1 Z1 H1 fp1 r1.st0 r1.up⟩ h
    refine ⟨_, hts, Z, S, startG N.length ds, fp, [], _, R.entry s0 d, hh, ⟨fun Z1 S1 Γ1 σ1 H1 fp1 ofp1 r1 p1 => q _ S1 p1 Z1 H1 fp1 _ r1.st0 r1.up .non, fun _ _ _ _ _ _ _ _ h => h.elim, fun _ _ _ _ _ _ _ _ h => h.elim, fun Z1 S1 Γ1 σ1 H1 fp1 ofp1 w1 v1 r1 b1 p1 => ?_⟩⟩
    refine q w1 S1 p1 Z1 H1 fp1 v1 r1.st0 r1.up ?_
    cases w1 with
    | d x => exact b1
    | own es => exact b1
/-- raise C('..') -/
def dRaise (ew : EW) (c : Value) : DS := fun _ Γ S => ew c Γ S
theorem ps_draise {C : Addr} {bmB : List Value} {B0 newId initId : String} {m : Str} {j0 : Nat} {p2 pos' : Pos} (hc : X.calm = true) (dx : DX X B w ew) (Fx : PySem.ExcBaseFacts B0 newId initId bmB) (q : PySem.W.excIn X.K C bmB newId = true) (gC : X.mg x = some (.ref C)) (kC : PySem.W.keepIn X.K (.ref C) = true) (rr : Raises X (.ref C))
    (hg : Gl X x := by rfl) (hdb : (x == ("__debug__" : Str)) = false := by decide) : PSD X B (.Raise (some (.Call (.Name x p) [.Constant (.str m) j0 p2] [] pos)) none pos') (dRaise ew (.ref C)) :=
  PS.weak (ps_raise hc dx.tk (pmk_own Fx q gC kC rr hg hdb)) fun Dn σ H h => by
    obtain ⟨Z, S, Γ, fp, ofp, DD, r, h, ok⟩ := h
    exact dx.ok _ _ _ _ _ _ _ _ r h
end
end DL
namespace DL
open PySem PySem.Spec PyProof.Rows L2
section
variable {K : PySem.W.Frag} {Z : Fz} {σ : L2.St} {Γ : Gm}
theorem BV.non {v : V} (h : BV K Z σ Γ v .non) : v = .non := by
  cases h.dv (fun _ z => nomatch z); rfl
theorem BV.bl {v : V} {b : Bool} (h : BV K Z σ Γ v (.bl b)) : v = .bl b := by
  cases h.dv (fun _ z => nomatch z); rfl
theorem BV.int {v : V} {i : Int} (h : BV K Z σ Γ v (.int i)) : v = .int i := by
  cases h.dv (fun _ z => nomatch z); rfl
theorem BV.str {v : V} {x : Str} (h : BV K Z σ Γ v (.str x)) : v = .str x := by
  cases h.dv (fun _ z => nomatch z); rfl
theorem BQ.non {v : V} (h : BQ K Z S σ Γ v .non) : v = .non := by
  cases h.dv (fun _ z => nomatch z); rfl
theorem BQ.bl {v : V} {b : Bool} (h : BQ K Z S σ Γ v (.bl b)) : v = .bl b := by
  cases h.dv (fun _ z => nomatch z); rfl
theorem BQ.int {v : V} {i : Int} (h : BQ K Z S σ Γ v (.int i)) : v = .int i := by
  cases h.dv (fun _ z => nomatch z); rfl
theorem BQ.str {v : V} {x : Str} (h : BQ K Z S σ Γ v (.str x)) : v = .str x := by
  cases h.dv (fun _ z => nomatch z); rfl
/-! ### data as the library's data -/
mutual
def py : D → PyData
  | .non => .none
  | .bl b => .bool b
  | .int i => .int i
  | .str x => .str x
  | .tup ds => .tuple (pyAll ds)
  | .lst ds => .list (pyAll ds)
  | .edict | .ref _ | .exc _ | .val _ => .none
def pyAll : List D → List PyData
  | [] => []
  | d :: ds => py d :: pyAll ds
end
mutual
def pyOk : D → Bool
  | .non | .bl _ | .int _ | .str _ => true
  | .tup ds | .lst ds => pyOkAll ds
  | .edict | .ref _ | .exc _ | .val _ => false
def pyOkAll : List D → Bool
  | [] => true
  | d :: ds => pyOk d && pyOkAll ds
end
mutual
theorem py_plain : ∀ d : D, (py d).plain = true
  | .non => rfl
  | .bl _ => rfl
  | .int _ => rfl
  | .str _ => rfl
  | .tup ds => by rw [py, PyData.plain]; exact py_plainAll ds
  | .lst ds => by rw [py, PyData.plain]; exact py_plainAll ds
  | .edict => rfl
  | .ref _ => rfl
  | .exc _ => rfl
  | .val _ => rfl
theorem py_plainAll : ∀ ds : List D, PyData.plainAll (pyAll ds) = true
  | [] => rfl
  | d :: ds => by rw [pyAll, PyData.plainAll, py_plain d, py_plainAll ds]; rfl
end
variable {H : Hp}
mutual
theorem dv_dp (fr : ∀ a o, Z.F a = some o → H a = some o) : ∀ {v : V} {d : D}, DV K Z v d → pyOk d = true → Dp K H v (py d)
  | _, _, .non, _ => .non
  | _, _, .bl b, _ => .bl b
  | _, _, .int i, _ => .int i
  | _, _, .str s, _ => .str s
  | _, _, .tup h q, e => by
    rw [pyOk] at e
    rw [py]
    exact .tup (same_sqT fr h) (dvs_dp fr q e)
  | _, _, .lst h q, e => by
    rw [pyOk] at e
    rw [py]
    exact .lst (same_sqL fr h) (dvs_dp fr q e)
  | _, _, .edict _, e => by cases e
  | _, _, .ref _, e => by cases e
  | _, _, .exc _ _, e => by cases e
  | _, _, .val _, e => by cases e
theorem dvs_dp (fr : ∀ a o, Z.F a = some o → H a = some o) : ∀ {vs : List V} {ds : List D}, DVs K Z vs ds → pyOkAll ds = true → DpAll K H vs (pyAll ds)
  | _, _, .nil, _ => .nil
  | _, _, .cons h q, e => by
    rw [pyOkAll, Bool.and_eq_true] at e
    rw [pyAll]
    exact .cons (dv_dp fr h e.1) (dvs_dp fr q e.2)
end
variable {B : Bs} {S : Sto} {fp ofp : List Addr}
theorem BV.dp (r : R K B Z S Γ σ H fp ofp) {v : V} {d : D} (h : BV K Z σ Γ v d) (e : pyOk d = true) : Dp K H v (py d) := by
  rcases h with h | ⟨i, ds, h1, h2, rfl⟩
  · exact dv_dp r.fr h e
  · obtain ⟨a, xs, rfl, hs, dd⟩ := BV.list r (.inr ⟨i, ds, h1, h2, rfl⟩)
    rw [pyOk] at e
    rw [py]
    exact .lst hs (dvs_dp r.fr dd e)
theorem BQ.dp (r : R K B Z S Γ σ H fp ofp) {v : V} {d : D} (h : BQ K Z S σ Γ v d) (e : pyOk d = true) : Dp K H v (py d) := by
  rcases h with h | ⟨m, ds, rfl, rfl, h3⟩
  · exact h.dp r e
  · obtain ⟨a, xs, e1, hs, dd⟩ := BQ.list r (σ := σ) (Γ := Γ) (.inr ⟨m, ds, rfl, rfl, h3⟩)
    rw [e1]
    rw [pyOk] at e
    rw [py]
    exact .lst hs (dvs_dp r.fr dd e)
end
/-- == on data -/
def eqD (x y : D) : Bool := PyData.eqv (py x) (py y)
/-- may be compared -/
def cmpOk (x : D) : Prop := pyOk x = true ∧ (py x).depth ≤ 60
section
variable {X : Cx} {B : Bs}
def rEqP (K : PySem.W.Frag) (g : Bool → Bool) : R2 := fun x y H Q => ∃ d e, Dp K H x d ∧ Dp K H y e ∧ d.plain = true ∧ e.plain = true ∧ min d.depth e.depth ≤ 60 ∧ Q (.bl (g (PyData.eqv d e))) H
theorem op_eqP (hu : X.A.units + 100 < cLine) : OpR X (compareOp .Eq) (rEqP X.K id) := by
  intro pins s σ H x y v u Q I rx ry h
  obtain ⟨d, e, hd, he, sd, se, hm, q⟩ := h
  obtain ⟨as, r1⟩ := Dp.reads I d x v hd rx
  obtain ⟨bs, r2⟩ := Dp.reads I e y u he ry
  exact SeqAt.eq_plain r1 r2 sd se (by omega) ⟨.bl _, H, I, rfl, q⟩
theorem op_neP (hu : X.A.units + 100 < cLine) : OpR X (compareOp .NotEq) (rEqP X.K not) := by
  intro pins s σ H x y v u Q I rx ry h
  obtain ⟨d, e, hd, he, sd, se, hm, q⟩ := h
  obtain ⟨as, r1⟩ := Dp.reads I d x v hd rx
  obtain ⟨bs, r2⟩ := Dp.reads I e y u he ry
  exact SeqAt.ne_plain r1 r2 sd se (by omega) ⟨.bl _, H, I, rfl, q⟩
def fEq : D → D → (D → Prop) → Prop := fun x y P => cmpOk x ∧ cmpOk y ∧ P (.bl (eqD x y))
def fNe : D → D → (D → Prop) → Prop := fun x y P => cmpOk x ∧ cmpOk y ∧ P (.bl (!eqD x y))
theorem o_eq (hu : X.A.units + 100 < cLine) : OpR X (compareOp .Eq) (rEqP X.K id) ∧ OpD X B (rEqP X.K id) fEq := ⟨op_eqP hu, fun {Z S Γ σ H fp ofp x y vx vy Q P} r bx by_ h q =>
  ⟨_, _, bx.dp r h.1.1, by_.dp r h.2.1.1, py_plain _, py_plain _, Nat.le_trans (Nat.min_le_left _ _) h.1.2, q _ h.2.2 Z H _ r (.refl _ _ _) (.bl _)⟩⟩
theorem o_ne (hu : X.A.units + 100 < cLine) : OpR X (compareOp .NotEq) (rEqP X.K not) ∧ OpD X B (rEqP X.K not) fNe := ⟨op_neP hu, fun {Z S Γ σ H fp ofp x y vx vy Q P} r bx by_ h q =>
  ⟨_, _, bx.dp r h.1.1, by_.dp r h.2.1.1, py_plain _, py_plain _, Nat.le_trans (Nat.min_le_left _ _) h.1.2, q _ h.2.2 Z H _ r (.refl _ _ _) (.bl _)⟩⟩

/-! ### arithmetic -/
def iOp (C : Int → Int → Prop) (g : Int → Int → D) : D → D → (D → Prop) → Prop := fun x y P => match x, y with
  | .int i, .int j => C i j ∧ P (g i j)
  | _, _ => False
def i0 (g : Int → Int → D) : D → D → (D → Prop) → Prop := fun x y P => match x, y with
  | .int i, .int j => P (g i j)
  | _, _ => False
theorem od_I {C : Int → Int → Prop} {g : Int → Int → Int} : OpD X B (rI C fun i j => .int (g i j)) (iOp C fun i j => .int (g i j)) := fun {Z S Γ σ H fp ofp x y vx vy Q P} r bx by_ h q => by
  cases x <;> cases y <;> first
    | (cases bx.int; cases by_.int; exact ⟨_, _, rfl, rfl, h.1, q _ h.2 Z H _ r (.refl _ _ _) (.int _)⟩)
    | exact False.elim h
theorem od_I0 {g : Int → Int → Int} : OpD X B (rI0 fun i j => .int (g i j)) (i0 fun i j => .int (g i j)) := fun {Z S Γ σ H fp ofp x y vx vy Q P} r bx by_ h q => by
  cases x <;> cases y <;> first
    | (cases bx.int; cases by_.int; exact ⟨_, _, rfl, rfl, q _ h Z H _ r (.refl _ _ _) (.int _)⟩)
    | exact False.elim h
theorem od_B0 {g : Int → Int → Bool} : OpD X B (rI0 fun i j => .bl (g i j)) (i0 fun i j => .bl (g i j)) := fun {Z S Γ σ H fp ofp x y vx vy Q P} r bx by_ h q => by
  cases x <;> cases y <;> first
    | (cases bx.int; cases by_.int; exact ⟨_, _, rfl, rfl, q _ h Z H _ r (.refl _ _ _) (.bl _)⟩)
    | exact False.elim h
/-- + : ints, texts, tuples -/
def fAdd : D → D → (D → Prop) → Prop := fun x y P => match x, y with
  | .int i, .int j => P (.int (i + j))
  | .str a, .str b => sz (a.length + b.length) ∧ P (.str (a ++ b))
  | .tup a, .tup b => sz (a.length + b.length) ∧ P (.tup (a ++ b))
  | _, _ => False
def rAdd (K : PySem.W.Frag) : R2 := fun x y H Q => (rI0 (fun i j => .int (i + j)) x y H Q ∨ (∃ i j, x = .str i ∧ y = .str j ∧ i.length + j.length ≤ sizeLine ∧ Q (.str (i ++ j)) H)) ∨ rCatA K x y H Q
theorem o_add : OpR X (binaryOp .Add) (rAdd X.K) ∧ OpD X B (rAdd X.K) fAdd := ⟨(op_add.or op_add_str).or op_catA, fun {Z S Γ σ H fp ofp x y vx vy Q P} r bx by_ h q => by
  cases x with
  | int i =>
    cases y with
    | int j => cases bx.int; cases by_.int; exact .inl (.inl ⟨_, _, rfl, rfl, q _ h Z H _ r (.refl _ _ _) (.int _)⟩)
    | _ => exact False.elim h
  | str i =>
    cases y with
    | str j => cases bx.str; cases by_.str; exact .inl (.inr ⟨_, _, rfl, rfl, h.1.ok, q _ h.2 Z H _ r (.refl _ _ _) (.str _)⟩)
    | _ => exact False.elim h
  | tup i =>
    cases y with
    | tup j =>
      obtain ⟨a, xs, rfl, f1, s1, d1⟩ := bx.tup r
      obtain ⟨b, ys, rfl, f2, s2, d2⟩ := by_.tup r
      refine .inr ⟨a, b, xs, ys, rfl, rfl, s1, s2, by rw [d1.length, d2.length]; exact h.1.ok, fun e => ?_, fun e1 e2 => ?_, fun e1 e2 p hp => ?_⟩
      · subst e
        cases d1
        exact q _ h.2 Z H _ r (.refl _ _ _) (.tup f2 d2)
      · subst e2
        cases d2
        have h2 := h.2
        rw [List.append_nil] at h2
        exact q _ h2 Z H _ r (.refl _ _ _) (.tup f1 d1)
      · have u := r.upF (o := .tup (xs ++ ys)) hp
        exact q _ h.2 _ _ _ (r.growF hp) u (.tup (SqT.of (show upd Z.F p (.tup (xs ++ ys)) p = _ from upd_same)) ((d1.append d2).up u))
    | _ => exact False.elim h
  | _ => exact False.elim h⟩
theorem o_sub : OpR X (binaryOp .Sub) (rI0 fun i j => .int (i - j)) ∧ OpD X B (rI0 fun i j => .int (i - j)) (i0 fun i j => .int (i - j)) := ⟨op_sub, od_I0⟩
/-- * : ints, a text and an int -/
def strMul (x : Str) (n : Int) : Str := ⟨((List.replicate n.toNat x.cps.toList).flatten).toArray⟩
theorem strMul_length (x : Str) (n : Int) : (strMul x n).length = x.length * n.toNat := by
  show ((List.replicate n.toNat x.cps.toList).flatten).toArray.size = x.cps.size * n.toNat
  rw [List.size_toArray, List.length_flatten, List.map_replicate, List.sum_replicate_nat, Array.length_toList, Nat.mul_comm]
theorem foldl_app (z : Array Nat) : ∀ (n : Nat) (acc : Array Nat), (List.replicate n z).foldl (· ++ ·) acc = acc ++ ((List.replicate n z.toList).flatten).toArray
  | 0, acc => by simp
  | n + 1, acc => by
    rw [List.replicate_succ, List.foldl_cons, foldl_app z n (acc ++ z), List.replicate_succ, List.flatten_cons]
    apply Array.ext'
    simp [List.append_assoc]
def rMulS : R2 := fun x y H Q => ∃ (z : Str) (n : Int), x = .str z ∧ y = .int n ∧ -(2 ^ 62) ≤ n ∧ n < 2 ^ 62 ∧ z.length * n.toNat ≤ 1000000 ∧ Q (.str (strMul z n)) H
theorem op_mulS : OpR X (binaryOp .Mult) rMulS := by
  intro pins s σ H x y v u Q I rx ry h
  obtain ⟨z, n, rfl, rfl, h1, h2, h3, q⟩ := h
  obtain ⟨t, rfl⟩ := rx
  obtain ⟨t', rfl⟩ := ry
  refine PySem.P.mul_str ?_ (fun k1 k2 => ?_) (fun k1 k2 => ?_) ?_
  · have e1 : ¬ n < -(2 ^ 63 : Int) := by omega
    have e2 : ¬ n ≥ (2 ^ 63 : Int) := by omega
    rw [decide_eq_false e1, decide_eq_false e2]
    rfl
  · have e3 : z.length ≤ 1000000 := by
      have : z.length * 1 ≤ z.length * n.toNat := Nat.mul_le_mul_left _ (by omega)
      rw [Nat.mul_one] at this
      exact Nat.le_trans this h3
    have e4 : (n.toNat : Int) = n := Int.toNat_of_nonneg (by omega)
    have h4 : ((z.length * n.toNat : Nat) : Int) ≤ ((1000000 : Nat) : Int) := Int.ofNat_le.mpr h3
    rw [Int.natCast_mul, e4] at h4
    have e5 : (z.length : Int) ≤ (2 ^ 63 - 1) / n := (Int.le_ediv_iff_mul_le (by omega)).mpr (Int.le_trans h4 (by decide))
    exact Int.not_lt.mpr e5
  · have : ¬ (z.length * n.toNat > sizeLine) := by
      have : (1000000 : Nat) ≤ sizeLine := by decide
      omega
    exact decide_eq_false this
  · by_cases k1 : n < 1
    · rw [if_pos k1]
      have e : n.toNat = 0 := by omega
      have es : strMul z n = Str.empty := by
        unfold strMul
        rw [e]
        rfl
      rw [es] at q
      exact ⟨by decide, .str _, H, I.tok _, ⟨_, rfl⟩, q⟩
    · rw [if_neg k1]
      by_cases k2 : (n == 1 || z.length == 0) = true
      · rw [if_pos k2]
        have es : strMul z n = z := by
          unfold strMul
          rcases Bool.or_eq_true_iff.mp k2 with k | k
          · have : n = 1 := eq_of_beq k
            subst this
            simp
          · have e0 : z.length = 0 := eq_of_beq k
            have : z.cps = #[] := Array.eq_empty_of_size_eq_zero e0
            obtain ⟨c⟩ := z
            simp only at this
            subst this
            simp
        rw [es] at q
        exact ⟨.str _, H, I, ⟨_, rfl⟩, q⟩
      · rw [if_neg k2]
        have es : (⟨(List.replicate n.toNat z.cps).foldl (· ++ ·) #[]⟩ : Str) = strMul z n := by
          unfold strMul
          rw [foldl_app]
          simp
        rw [es]
        refine ⟨?_, .str _, H, I.tok _, ⟨_, rfl⟩, q⟩
        rw [strMul_length]
        exact Nat.le_trans h3 (by decide)
def fMul : D → D → (D → Prop) → Prop := fun x y P => match x, y with
  | .int i, .int j => CMul i j ∧ P (.int (i * j))
  | .str a, .int n => (-(2 ^ 62) ≤ n ∧ n < 2 ^ 62 ∧ a.length * n.toNat ≤ 1000000) ∧ P (.str (strMul a n))
  | .tup ds, .int n => (ds ≠ [] ∧ 2 ≤ n ∧ n ≤ 1000 ∧ ds.length ≤ 1000) ∧ P (.tup (List.replicate n.toNat ds).flatten)
  | _, _ => False
theorem DVs.rep {K : PySem.W.Frag} {Z : Fz} {vs : List V} {ds : List D} (h : DVs K Z vs ds) : ∀ n, DVs K Z (List.replicate n vs).flatten (List.replicate n ds).flatten
  | 0 => .nil
  | n + 1 => by
    rw [List.replicate_succ, List.replicate_succ, List.flatten_cons, List.flatten_cons]
    exact h.append (DVs.rep h n)
def rMulD (K : PySem.W.Frag) : R2 := fun x y H Q => (rI CMul (fun i j => .int (i * j)) x y H Q ∨ rMulS x y H Q) ∨ rRepT K x y H Q
theorem o_mul : OpR X (binaryOp .Mult) (rMulD X.K) ∧ OpD X B (rMulD X.K) fMul := ⟨(op_mul.or op_mulS).or op_repT, fun {Z S Γ σ H fp ofp x y vx vy Q P} r bx by_ h q => by
  cases x with
  | int i =>
    cases y with
    | int j => cases bx.int; cases by_.int; exact .inl (.inl ⟨_, _, rfl, rfl, h.1, q _ h.2 Z H _ r (.refl _ _ _) (.int _)⟩)
    | _ => exact False.elim h
  | str i =>
    cases y with
    | int j => cases bx.str; cases by_.int; exact .inl (.inr ⟨_, _, rfl, rfl, h.1.1, h.1.2.1, h.1.2.2, q _ h.2 Z H _ r (.refl _ _ _) (.str _)⟩)
    | _ => exact False.elim h
  | tup ds =>
    cases y with
    | int j =>
      cases by_.int
      obtain ⟨p, us, rfl, hf, hs, hd⟩ := bx.tup r
      refine .inr ⟨p, j, us, rfl, rfl, hs, fun e => h.1.1 ?_, h.1.2.1, h.1.2.2.1, by rw [hd.length]; exact h.1.2.2.2, fun l hl => ?_⟩
      · subst e
        cases hd
        rfl
      · have u := r.upF (o := .tup (List.replicate j.toNat us).flatten) hl
        exact q _ h.2 _ _ _ (r.growF hl) u (.tup (SqT.of (show upd Z.F l (.tup (List.replicate j.toNat us).flatten) l = _ from upd_same)) ((hd.rep _).up u))
    | _ => exact False.elim h
  | _ => exact False.elim h⟩
theorem o_fdiv : OpR X (binaryOp .FloorDiv) (rI CDiv fun i j => .int (i / j)) ∧ OpD X B (rI CDiv fun i j => .int (i / j)) (iOp CDiv fun i j => .int (i / j)) := ⟨op_fdiv, od_I⟩
theorem o_mod : OpR X (binaryOp .Mod) (rI (fun _ j => 0 < j) fun i j => .int (i % j)) ∧ OpD X B (rI (fun _ j => 0 < j) fun i j => .int (i % j)) (iOp (fun _ j => 0 < j) fun i j => .int (i % j)) := ⟨op_mod, od_I⟩
theorem o_pow : OpR X (binaryOp .Pow) (rI CPow fun i j => .int (i ^ j.toNat)) ∧ OpD X B (rI CPow fun i j => .int (i ^ j.toNat)) (iOp CPow fun i j => .int (i ^ j.toNat)) := ⟨op_pow, od_I⟩
theorem o_shl : OpR X (binaryOp .LShift) (rI CPow fun i j => .int (i * 2 ^ j.toNat)) ∧ OpD X B (rI CPow fun i j => .int (i * 2 ^ j.toNat)) (iOp CPow fun i j => .int (i * 2 ^ j.toNat)) := ⟨op_shl, od_I⟩
theorem o_lt : OpR X (compareOp .Lt) (rI0 fun i j => .bl (decide (i < j))) ∧ OpD X B (rI0 fun i j => .bl (decide (i < j))) (i0 fun i j => .bl (decide (i < j))) := ⟨op_lt, od_B0⟩
theorem o_le : OpR X (compareOp .LtE) (rI0 fun i j => .bl (decide (i ≤ j))) ∧ OpD X B (rI0 fun i j => .bl (decide (i ≤ j))) (i0 fun i j => .bl (decide (i ≤ j))) := ⟨op_le, od_B0⟩
theorem o_gt : OpR X (compareOp .Gt) (rI0 fun i j => .bl (decide (j < i))) ∧ OpD X B (rI0 fun i j => .bl (decide (j < i))) (i0 fun i j => .bl (decide (j < i))) := ⟨op_gt, od_B0⟩
theorem o_ge : OpR X (compareOp .GtE) (rI0 fun i j => .bl (decide (j ≤ i))) ∧ OpD X B (rI0 fun i j => .bl (decide (j ≤ i))) (i0 fun i j => .bl (decide (j ≤ i))) := ⟨op_ge, od_B0⟩
/-! ### is -/
def isNon : D → Bool
  | .non => true
  | _ => false
theorem BV.isNon {K : PySem.W.Frag} {Z : Fz} {S : Sto} {σ : L2.St} {Γ : Gm} {H : Hp} {fp ofp : List Addr} (r : R K B Z S Γ σ H fp ofp) {v : V} {d : D} (h : BV K Z σ Γ v d) : decide (v = .non) = DL.isNon d := by
  rcases h with h | ⟨i, ds, h1, h2, rfl⟩
  · cases h with
    | non => rfl
    | val f => cases v <;> first | rfl | exact f.elim
    | _ => rfl
  · obtain ⟨a, xs, rfl, _⟩ := BV.list r (.inr ⟨i, ds, h1, h2, rfl⟩)
    rfl
theorem BQ.isNon {K : PySem.W.Frag} {Z : Fz} {S : Sto} {σ : L2.St} {Γ : Gm} {H : Hp} {fp ofp : List Addr} (r : R K B Z S Γ σ H fp ofp) {v : V} {d : D} (h : BQ K Z S σ Γ v d) : decide (v = .non) = DL.isNon d := by
  rcases h with h | ⟨m, ds, rfl, rfl, h3⟩
  · exact h.isNon r
  · rfl
def fIsN : D → D → (D → Prop) → Prop := fun x y P => match y with
  | .non => P (.bl (isNon x))
  | _ => False
def fNotN : D → D → (D → Prop) → Prop := fun x y P => match y with
  | .non => P (.bl (!isNon x))
  | _ => False
theorem o_isN : OpR X (compareOp .Is) (fun x y H Q => y = .non ∧ Q (.bl (decide (x = .non))) H) ∧ OpD X B (fun x y H Q => y = .non ∧ Q (.bl (decide (x = .non))) H) fIsN := ⟨op_isN, fun {Z S Γ σ H fp ofp x y vx vy Q P} r bx by_ h q => by
  cases y with
  | non =>
    refine ⟨by_.non, ?_⟩
    rw [bx.isNon r]
    exact q _ h Z H _ r (.refl _ _ _) (.bl _)
  | _ => exact False.elim h⟩
theorem o_notN : OpR X (compareOp .IsNot) (fun x y H Q => y = .non ∧ Q (.bl (!decide (x = .non))) H) ∧ OpD X B (fun x y H Q => y = .non ∧ Q (.bl (!decide (x = .non))) H) fNotN := ⟨op_notN, fun {Z S Γ σ H fp ofp x y vx vy Q P} r bx by_ h q => by
  cases y with
  | non =>
    refine ⟨by_.non, ?_⟩
    rw [bx.isNon r]
    exact q _ h Z H _ r (.refl _ _ _) (.bl _)
  | _ => exact False.elim h⟩
def bOp (g : Bool → Bool → Bool) : D → D → (D → Prop) → Prop := fun x y P => match x, y with
  | .bl i, .bl j => P (.bl (g i j))
  | _, _ => False
theorem o_isB : OpR X (compareOp .Is) (fun x y H Q => ∃ a b, x = .bl a ∧ y = .bl b ∧ Q (.bl (decide (a = b))) H) ∧ OpD X B (fun x y H Q => ∃ a b, x = .bl a ∧ y = .bl b ∧ Q (.bl (decide (a = b))) H) (bOp fun a b => decide (a = b)) := ⟨op_is_bl, fun {Z S Γ σ H fp ofp x y vx vy Q P} r bx by_ h q => by
  cases x <;> cases y <;> first
    | (cases bx.bl; cases by_.bl; exact ⟨_, _, rfl, rfl, q _ h Z H _ r (.refl _ _ _) (.bl _)⟩)
    | exact False.elim h⟩
theorem o_notB : OpR X (compareOp .IsNot) (fun x y H Q => ∃ a b, x = .bl a ∧ y = .bl b ∧ Q (.bl (!decide (a = b))) H) ∧ OpD X B (fun x y H Q => ∃ a b, x = .bl a ∧ y = .bl b ∧ Q (.bl (!decide (a = b))) H) (bOp fun a b => !decide (a = b)) := ⟨op_isnot_bl, fun {Z S Γ σ H fp ofp x y vx vy Q P} r bx by_ h q => by
  cases x <;> cases y <;> first
    | (cases bx.bl; cases by_.bl; exact ⟨_, _, rfl, rfl, q _ h Z H _ r (.refl _ _ _) (.bl _)⟩)
    | exact False.elim h⟩
/-! ### in -/
def rInP (K : PySem.W.Frag) (neg : Bool) : R2 := fun x y H Q => ∃ d ds, Dp K H x d ∧ (Dp K H y (.list ds) ∨ Dp K H y (.tuple ds)) ∧ d.plain = true ∧ PyData.plainAll ds = true ∧ d.depth ≤ 60 ∧ Q (.bl (if neg then !(ds.any fun z => PyData.eqv z d) else ds.any fun z => PyData.eqv z d)) H
theorem op_inP (hu : X.A.units + 100 < cLine) : OpR X (compareOp .In) (rInP X.K false) := by
  intro pins s σ H x y v u Q I rx ry h
  obtain ⟨d, ds, hd, he, sd, se, hm, q⟩ := h
  obtain ⟨as, r1⟩ := Dp.reads I d x v hd rx
  have hu2 : X.A.units + 1 + min (PyData.depthAll ds) d.depth < cLine := by
    have := Nat.min_le_right (PyData.depthAll ds) d.depth
    omega
  rcases he with he | he
  · obtain ⟨bs, r2⟩ := Dp.reads I _ y u he ry
    exact SeqAt.in_list_data r2 r1 se sd hu2 ⟨.bl _, H, I, rfl, q⟩
  · obtain ⟨bs, r2⟩ := Dp.reads I _ y u he ry
    exact SeqAt.in_tuple_data r2 r1 se sd hu2 ⟨.bl _, H, I, rfl, q⟩
theorem op_notInP (hu : X.A.units + 100 < cLine) : OpR X (compareOp .NotIn) (rInP X.K true) := by
  intro pins s σ H x y v u Q I rx ry h
  obtain ⟨d, ds, hd, he, sd, se, hm, q⟩ := h
  obtain ⟨as, r1⟩ := Dp.reads I d x v hd rx
  have hu2 : X.A.units + 1 + min (PyData.depthAll ds) d.depth < cLine := by
    have := Nat.min_le_right (PyData.depthAll ds) d.depth
    omega
  rcases he with he | he
  · obtain ⟨bs, r2⟩ := Dp.reads I _ y u he ry
    exact SeqAt.notIn_list_data r2 r1 se sd hu2 ⟨.bl _, H, I, rfl, q⟩
  · obtain ⟨bs, r2⟩ := Dp.reads I _ y u he ry
    exact SeqAt.notIn_tuple_data r2 r1 se sd hu2 ⟨.bl _, H, I, rfl, q⟩
theorem any_py (x : D) : ∀ ds : List D, ((pyAll ds).any fun z => PyData.eqv z (py x)) = ds.any fun z => eqD z x
  | [] => rfl
  | d :: ds => by
    rw [pyAll, List.any_cons, List.any_cons, any_py x ds]
    rfl
def isOneSign : Str → Option Nat
  | ⟨⟨[c]⟩⟩ => some c
  | _ => none
theorem oneSign {x : Str} {c : Nat} (h : isOneSign x = some c) : x = ⟨#[c]⟩ := by
  unfold isOneSign at h
  split at h
  · cases h; rfl
  · cases h
def fIn (neg : Bool) : D → D → (D → Prop) → Prop := fun x y P => match y with
  | .lst ds => cmpOk x ∧ pyOkAll ds = true ∧ P (.bl (if neg then !(ds.any fun z => eqD z x) else ds.any fun z => eqD z x))
  | .tup ds => cmpOk x ∧ pyOkAll ds = true ∧ P (.bl (if neg then !(ds.any fun z => eqD z x) else ds.any fun z => eqD z x))
  | .str z => match x with
    | .str a => ∃ c, a = ⟨#[c]⟩ ∧ P (.bl (if neg then !decide (c ∈ z.cps.toList) else decide (c ∈ z.cps.toList)))
    | _ => False
  | _ => False
def rIn2 (K : PySem.W.Frag) (neg : Bool) : R2 := fun x y H Q => rInP K neg x y H Q ∨ (∃ (c : Nat) (z : Str), x = .str ⟨#[c]⟩ ∧ y = .str z ∧ Q (.bl (if neg then !decide (c ∈ z.cps.toList) else decide (c ∈ z.cps.toList))) H)
theorem od_in (neg : Bool) : OpD X B (rIn2 X.K neg) (fIn neg) := fun {Z S Γ σ H fp ofp x y vx vy Q P} r bx by_ h q => by
  cases y with
  | lst ds =>
    obtain ⟨h1, h2, h3⟩ := h
    rw [← any_py] at h3
    have hd := by_.dp r (d := .lst ds) (by rw [pyOk]; exact h2)
    rw [py] at hd
    exact .inl ⟨_, _, bx.dp r h1.1, .inl hd, py_plain _, py_plainAll _, h1.2, q _ h3 Z H _ r (.refl _ _ _) (.bl _)⟩
  | tup ds =>
    obtain ⟨h1, h2, h3⟩ := h
    rw [← any_py] at h3
    have hd := by_.dp r (d := .tup ds) (by rw [pyOk]; exact h2)
    rw [py] at hd
    exact .inl ⟨_, _, bx.dp r h1.1, .inr hd, py_plain _, py_plainAll _, h1.2, q _ h3 Z H _ r (.refl _ _ _) (.bl _)⟩
  | str z =>
    cases x with
    | str a =>
      obtain ⟨c, rfl, h⟩ := h
      cases bx.str
      cases by_.str
      exact .inr ⟨c, z, rfl, rfl, q _ h Z H _ r (.refl _ _ _) (.bl _)⟩
    | _ => exact False.elim h
  | _ => exact False.elim h
theorem o_in (hu : X.A.units + 100 < cLine) : OpR X (compareOp .In) (rIn2 X.K false) ∧ OpD X B (rIn2 X.K false) (fIn false) := ⟨(op_inP hu).or op_in_sign, od_in false⟩
theorem o_notIn (hu : X.A.units + 100 < cLine) : OpR X (compareOp .NotIn) (rIn2 X.K true) ∧ OpD X B (rIn2 X.K true) (fIn true) := ⟨(op_notInP hu).or op_notIn_sign, od_in true⟩

/-! ### subscripts -/
variable {a b e : Expr} {ta tb te : DE} {pos p2 : Pos} {to : DA}
theorem DVs.at {K : PySem.W.Frag} {Z : Fz} {vs : List V} {ds : List D} {i : Int} {d : D} (q : DVs K Z vs ds) (h : atI ds i = some d) : ∃ v, atI vs i = some v ∧ DV K Z v d := by
  unfold atI at h ⊢
  rw [q.length]
  cases e : ixN ds.length i with
  | none => rw [e] at h; cases h
  | some j =>
    rw [e] at h
    obtain ⟨v, h1, h2⟩ := q.getD (i := j) h
    exact ⟨v, h1, h2⟩
def fIx : D → D → (D → Prop) → Prop := fun x y P => match x, y with
  | .lst ds, .int i => ∃ d, atI ds i = some d ∧ P d
  | .tup ds, .int i => ∃ d, atI ds i = some d ∧ P d
  | .str z, .int i => sz z.length ∧ ∃ c, atI z.cps.toList i = some c ∧ P (.str ⟨#[c]⟩)
  | _, _ => False
theorem od_ix : OpD X B (rIx X.K) fIx := fun {Z S Γ σ H fp ofp x y vx vy Q P} r bx by_ h q => by
  cases y with
  | int i =>
    cases by_.int
    cases x with
    | lst ds =>
      obtain ⟨d, h1, h2⟩ := h
      obtain ⟨p, xs, rfl, hs, hd⟩ := bx.list r
      obtain ⟨v, e1, dv⟩ := hd.at h1
      exact .inl ⟨p, xs, i, v, rfl, rfl, hs, e1, q _ h2 Z H _ r (.refl _ _ _) dv⟩
    | tup ds =>
      obtain ⟨d, h1, h2⟩ := h
      obtain ⟨p, xs, rfl, _, hs, hd⟩ := bx.tup r
      obtain ⟨v, e1, dv⟩ := hd.at h1
      exact .inr (.inl ⟨p, xs, i, v, rfl, rfl, hs, e1, q _ h2 Z H _ r (.refl _ _ _) dv⟩)
    | str z =>
      obtain ⟨hz, c, h1, h2⟩ := h
      cases bx.str
      exact .inr (.inr ⟨z, i, c, rfl, rfl, hz.ok, h1, q _ h2 Z H _ r (.refl _ _ _) (.str _)⟩)
    | _ => exact False.elim h
  | _ => exact (by cases x <;> exact False.elim h)
theorem pd_ix (ha : PB X B a ta) (hb : PB X B b tb) (hs : PlainIx b := by exact fun _ _ => rfl) : PD X B (.Subscript a b pos) (dOp fIx ta tb) := PE.weak (pe_ix ix_seq ha hb hs) fun σ H Q h => opd_run od_ix h
/-- a slice's part -/
def liftP (K : PySem.W.Frag) (B : Bs) (tp : Gm → Sto → (Option Int → Sto → Prop) → Prop) : TO := fun σ H Q => ∃ Z S Γ fp ofp P, R K B Z S Γ σ H fp ofp ∧ tp Γ S P ∧
  ∀ o S', P o S' → ∀ Z' H' fp', R K B Z' S' Γ σ H' fp' ofp → Up Z H fp Z' H' fp' → Q o H'
abbrev DP := Gm → Sto → (Option Int → Sto → Prop) → Prop
theorem PO.weak {e : Option Expr} {t t' : TO} (h : L2.PO X e t) (k : ∀ σ H Q, t' σ H Q → t σ H Q) : L2.PO X e t' := ⟨fun pins s σ H Q I q => h.run pins s σ H Q I (k _ _ _ q)⟩
abbrev PPD (X : Cx) (B : Bs) (e : Option Expr) (t : DP) : Prop := L2.PO X e (liftP X.K B t)
def dP0 : DP := fun _ S Q => Q none S
def dP1 (te : DE) : DP := fun Γ S Q => te Γ S fun x S1 => match x with
  | .int i => Q (some i) S1
  | _ => False
theorem pp_none : PPD X B none dP0 := PO.weak po_none fun σ H Q h => by
  obtain ⟨Z, S, Γ, fp, ofp, P, r, h, q⟩ := h
  exact q _ _ h Z H fp r (.refl _ _ _)
theorem pp_some (h : PD X B e te) : PPD X B (some e) (dP1 te) := PO.weak (po_some h) fun σ H Q h => by
  obtain ⟨Z, S, Γ, fp, ofp, P, r, h, q⟩ := h
  refine ⟨Z, S, Γ, fp, ofp, _, r, h, fun x S1 h1 Z1 H1 fp1 vx r1 l1 b1 => ?_⟩
  cases x with
  | int i =>
    cases b1
    exact ⟨i, rfl, q _ S1 h1 Z1 H1 fp1 r1 l1⟩
  | _ => exact False.elim h1
/-- xs[lo:hi] by items -/
def cutL {α : Type} (xs : List α) (lo hi : Option Int) : List α := (xs.drop (HT.sIx xs.length 0 lo)).take (HT.sIx xs.length xs.length hi - HT.sIx xs.length 0 lo)
theorem DVs.cut {K : PySem.W.Frag} {Z : Fz} {vs : List V} {ds : List D} (q : DVs K Z vs ds) (lo hi : Option Int) : DVs K Z (cutV vs lo hi) (cutL ds lo hi) := by
  unfold cutV cutL
  rw [q.length]
  exact (q.drop _).take _
def fSl : D → Option Int → Option Int → (D → Prop) → Prop := fun x lo hi P => match x with
  | .tup ds => P (.tup (cutL ds lo hi))
  | .str z => sz z.length ∧ P (.str (cutS z lo hi))
  | .lst ds => P (.lst (cutL ds lo hi))
  | _ => False
def dSl (te : DE) (tl th : DP) : DE := fun Γ S Q => te Γ S fun x S1 => tl Γ S1 fun lo S2 => th Γ S2 fun hi S3 => fSl (der S3 x) lo hi fun z => Q z S3
def rSl3 (K : PySem.W.Frag) : V → Option Int → Option Int → Hp → VK → Prop := fun x lo hi H Q => (rSlA K x lo hi H Q ∨ rSlS x lo hi H Q) ∨ rSlL K x lo hi H Q
theorem sl_3 : SlR X (rSl3 X.K) := (sl_tupA.or sl_str).or sl_list
variable {lo hi : Option Expr} {tl th : DP}
theorem cut_whole {α : Type} {xs : List α} {lo hi : Option Int} (h : HT.sIx xs.length 0 lo = 0 ∧ HT.sIx xs.length xs.length hi = xs.length) : cutL xs lo hi = xs := by
  unfold cutL
  rw [h.1, h.2]
  simp
theorem pd_slice (he : PB X B e te) (hl : PPD X B lo tl) (hh : PPD X B hi th) : PD X B (.Subscript e (.Slice lo hi none p2) pos) (dSl te tl th) := PE.weak (pe_slice sl_3 he hl hh) fun σ H Q h => by
  obtain ⟨Z, S, Γ, fp, ofp, P, r, h, q⟩ := h
  refine ⟨Z, S, Γ, fp, ofp, _, r, h, fun x S1 h1 Z1 H1 fp1 vx r1 u1 b1 => ?_⟩
  refine ⟨Z1, S1, Γ, fp1, ofp, _, r1, h1, fun l S2 h2 Z2 H2 fp2 r2 u2 => ?_⟩
  refine ⟨Z2, S2, Γ, fp2, ofp, _, r2, h2, fun u S3 h3 Z3 H3 fp3 r3 u3 => ?_⟩
  have b3 := ((b1.up u2).up u3).der (S := S3)
  have ut := (u1.trans u2).trans u3
  generalize DL.der S3 x = x at b3 h3
  cases x with
  | tup ds =>
    obtain ⟨p, xs, rfl, f1, s1, d1⟩ := b3.tup r3
    refine .inl (.inl ⟨p, xs, rfl, s1, fun hw => ?_, fun hw p hp => ?_⟩)
    · rw [d1.length] at hw
      have h3' : P (.tup (cutL ds l u)) S3 := h3
      rw [cut_whole hw] at h3'
      exact q _ S3 h3' Z3 H3 fp3 _ r3 ut (.tup f1 d1)
    · have u4 := r3.upF (o := .tup (cutV xs l u)) hp
      exact q _ S3 h3 _ _ fp3 _ (r3.growF hp) (ut.trans u4) (.tup (SqT.of (show upd Z3.F p (.tup (cutV xs l u)) p = _ from upd_same)) ((d1.cut l u).up u4))
  | str z =>
    cases b3.str
    exact .inl (.inr ⟨z, rfl, h3.1.ok, q _ S3 h3.2 Z3 H3 fp3 _ r3 ut (.str _)⟩)
  | lst ds =>
    obtain ⟨p, xs, rfl, s1, d1⟩ := b3.list r3
    refine .inr ⟨p, xs, rfl, s1, fun p hp => ?_⟩
    have u4 := r3.upF (o := .lst (cutV xs l u)) hp
    exact q _ S3 h3 _ _ fp3 _ (r3.growF hp) (ut.trans u4) (.lst (SqL.of (show upd Z3.F p (.lst (cutV xs l u)) p = _ from upd_same)) ((d1.cut l u).up u4))
  | _ => exact False.elim h3
end
end DL
namespace DL
open PySem PySem.Spec PyProof.Rows L2
section
variable {K : PySem.W.Frag} {Z : Fz} {σ : L2.St} {Γ : Gm} {B : Bs} {S : Sto} {H : Hp} {fp ofp : List Addr}
/-! ### isinstance -/
def tyName : D → Option String
  | .non => some "NoneType"
  | .bl _ => some "bool"
  | .int _ => some "int"
  | .str _ => some "str"
  | .tup _ => some "tuple"
  | .lst _ => some "list"
  | .edict => some "dict"
  | _ => none
def isT (a b : String) : Option Bool :=
  if b = "str" then some (a == "str") else if b = "int" then some (a == "int" || a == "bool") else if b = "bool" then some (a == "bool")
  else if b = "tuple" then some (a == "tuple") else if b = "list" then some (a == "list") else if b = "dict" then some (a == "dict") else none
theorem isT_kit {x : D} {a b : String} {k : Bool} (ha : tyName x = some a) (h : isT a b = some k) : kitB a b = some k := by
  have hb : b = "str" ∨ b = "int" ∨ b = "bool" ∨ b = "tuple" ∨ b = "list" ∨ b = "dict" := by
    unfold isT at h
    repeat (split at h; · simp_all)
    cases h
  have hA : a = "NoneType" ∨ a = "bool" ∨ a = "int" ∨ a = "str" ∨ a = "tuple" ∨ a = "list" ∨ a = "dict" := by
    cases x <;> first | (cases ha; done) | (cases ha; simp)
  rcases hA with rfl | rfl | rfl | rfl | rfl | rfl | rfl <;> rcases hb with rfl | rfl | rfl | rfl | rfl | rfl <;>
    (rw [show k = _ from (Option.some.inj h).symm]; decide +kernel)
theorem dv_ty (fr : ∀ a o, Z.F a = some o → H a = some o) {v : V} {d : D} {n : String} (h : DV K Z v d) (e : tyName d = some n) : TyX K H v (.type n) := by
  cases h with
  | non => cases e; exact .base .non
  | bl b => cases e; exact .base (.bl b)
  | int i => cases e; exact .base (.int i)
  | str s => cases e; exact .base (.str s)
  | tup h q =>
    cases e
    rcases same_sqT fr h with (h | ⟨o, h⟩) | ⟨o, its, n, h1, h2, _⟩
    · exact .base (.tup h)
    · exact .fTuple h
    · exact .kTuple h1 h2
  | lst h q =>
    cases e
    rcases same_sqL fr h with (h | ⟨o, h⟩) | ⟨o, its, n, h1, h2, _⟩
    · exact .base (.lst h)
    · exact .base (.frz h)
    · exact .kList h1 h2
  | edict h => cases e; exact .base (.dK (fr _ _ h))
  | _ => cases e
theorem BV.ty (r : R K B Z S Γ σ H fp ofp) {v : V} {d : D} {n : String} (h : BV K Z σ Γ v d) (e : tyName d = some n) : TyX K H v (.type n) := by
  rcases h with h | ⟨i, ds, h1, h2, rfl⟩
  · exact dv_ty r.fr h e
  · cases e
    obtain ⟨a, xs, e1, k, d1, _⟩ := r.write (ds' := []) h2
    rw [h1] at e1
    cases e1
    exact .base (.lst k)
theorem BQ.ty (r : R K B Z S Γ σ H fp ofp) {v : V} {d : D} {n : String} (h : BQ K Z S σ Γ v d) (e : tyName d = some n) : TyX K H v (.type n) := by
  rcases h with h | ⟨m, ds, rfl, rfl, h3⟩
  · exact h.ty r e
  · cases e
    obtain ⟨as, oc, _⟩ := r.cell h3
    cases oc with
    | lst h1 h2 => exact .base (.lst h1)
def clsU : V → Value
  | .ty n => .type n
  | .ref C => .ref C
  | _ => .none
def isiOne (K : PySem.W.Frag) (x : D) (c : V) : Option Bool := match x, c with
  | .exc d, c => PySem.W.kitOne K d (clsU c)
  | x, .ty n => (tyName x).bind fun a => isT a n
  | _, _ => none
def allVal : List D → Bool
  | [] => true
  | .val _ :: cs => allVal cs
  | _ => false
def isiSome (K : PySem.W.Frag) (x : D) : List D → Option Bool
  | [] => some false
  | .val c :: cs => match isiOne K x c with
    | some true => some true
    | some false => isiSome K x cs
    | none => none
  | _ => none
def fIsi (K : PySem.W.Frag) : List D → (D → Prop) → Prop := fun xs P => match xs with
  | [x, .val c] => ∃ b, isiOne K x c = some b ∧ P (.bl b)
  | [x, .tup cs] => (cs ≠ [] ∧ allVal cs = true) ∧ ∃ b, isiSome K x cs = some b ∧ P (.bl b)
  | _ => False
end
section
variable {X : Cx} {B : Bs}
/-- isinstance of a caught error that is tracked -/
def rIsE2 (K : PySem.W.Frag) : List V → Hp → VK → Prop := fun xs H Q => ∃ (a C : Addr) (c : V) (cv : Value) (b : Bool), xs = [.ref a, c] ∧ H a = some (ExH (.ref C) a) ∧ ExcC K C ∧ ClsV c cv ∧ PySem.W.kitOne K (.ref C) cv = some b ∧ Q (.bl b) H
theorem call_isE2 : CallR X (.builtin "isinstance") (rIsE2 X.K) := by
  intro pins s σ H xs us Q I r h
  obtain ⟨a, C, c, cv, b, rfl, hH, hC, hcv, e, q⟩ := h
  obtain ⟨u1, u2, rfl, r1, r2⟩ := vals2 r
  cases (show u1 = Value.ref a from r1)
  have e2 := hcv.eq r2
  subst e2
  obtain ⟨⟨oe, vs, g, z, d⟩, _⟩ := (show ObjOk X.prog X.w H s.heap a (ExH (.ref C) a) from I.hok a _ hH)
  have J : PySem.W.InstAt s.heap a oe C none := by
    obtain ⟨oc, od, oda, osl⟩ := oe
    obtain ⟨h1, h2⟩ := z
    dsimp only at h1 h2 d
    subst h1 h2 d
    exact ⟨g, rfl, rfl, trivial⟩
  exact PySem.W.kia_one (PySem.W.handS_kitx_exc hC.hg hC.hk hC.hs hC.hd hC.ha hC.hn hC.ht hC.hm) I.kIn J e (fun z => nomatch z) fun tk => ⟨.bl b, H, I.kept (t' := tk) fun _ _ z => z, rfl, q⟩
def rIsiT2 (K : PySem.W.Frag) : List V → Hp → VK → Prop := fun xs H Q => ∃ (x : V) (tp : Addr) (cs : List V) (t : Value) (us : List Value) (b : Bool), xs = [x, .ref tp] ∧ SqT K H tp cs ∧ Paired ClsV cs us ∧ TyX K H x t ∧ PySem.W.kitAny K t us = some b ∧ Q (.bl b) H
theorem call_isiT2 : CallR X (.builtin "isinstance") (rIsiT2 X.K) := by
  intro pins s σ H xs us Q I r h
  obtain ⟨x, tp, cs, t, ws, b, rfl, hT, k, ty, e, q⟩ := h
  obtain ⟨u1, u2, rfl, r1, r2⟩ := vals2 r
  cases (show u2 = Value.ref tp from r2)
  obtain ⟨P, Z, p, hx⟩ := kit_of I r1 ty
  obtain ⟨its, rv, ⟨o, h1, h2, n, h3⟩, _⟩ := I.tuple hT
  have e3 := ClsV.all k rv
  subst e3
  obtain ⟨oc, od, dt, sl⟩ := o
  simp only at h2 h3
  subst h2 h3
  exact PySem.W.kia_tup Z I.kIn p h1 e hx fun tk => ⟨.bl b, H, I.tok tk, rfl, q⟩
def rIsE3 (K : PySem.W.Frag) : List V → Hp → VK → Prop := fun xs H Q => ∃ (a C tp : Addr) (cs : List V) (us : List Value) (b : Bool), xs = [.ref a, .ref tp] ∧ SqT K H tp cs ∧ H a = some (ExH (.ref C) a) ∧ ExcC K C ∧ Paired ClsV cs us ∧ PySem.W.kitAny K (.ref C) us = some b ∧ Q (.bl b) H
theorem call_isE3 : CallR X (.builtin "isinstance") (rIsE3 X.K) := by
  intro pins s σ H xs us Q I r h
  obtain ⟨a, C, tp, cs, ws, b, rfl, hT, hH, hC, k, e, q⟩ := h
  obtain ⟨u1, u2, rfl, r1, r2⟩ := vals2 r
  cases (show u1 = Value.ref a from r1)
  cases (show u2 = Value.ref tp from r2)
  obtain ⟨⟨oe, vs, g, z, d⟩, _⟩ := (show ObjOk X.prog X.w H s.heap a (ExH (.ref C) a) from I.hok a _ hH)
  have J : PySem.W.InstAt s.heap a oe C none := by
    obtain ⟨oc, od, oda, osl⟩ := oe
    obtain ⟨h1, h2⟩ := z
    dsimp only at h1 h2 d
    subst h1 h2 d
    exact ⟨g, rfl, rfl, trivial⟩
  obtain ⟨its, rv, ⟨o, h1, h2, n, h3⟩, _⟩ := I.tuple hT
  have e3 := ClsV.all k rv
  subst e3
  obtain ⟨oc, od, dt, sl⟩ := o
  simp only at h2 h3
  subst h2 h3
  exact PySem.W.kia_tup (PySem.W.handS_kitx_exc hC.hg hC.hk hC.hs hC.hd hC.ha hC.hn hC.ht hC.hm) I.kIn J h1 e (fun z => nomatch z) fun tk => ⟨.bl b, H, I.kept (t' := tk) fun _ _ z => z, rfl, q⟩
theorem flat_cls {c : V} (h : Flat c) : ClsV c (clsU c) := by
  cases c with
  | ty n => exact .ty n
  | ref a => exact .own a
  | _ => exact h.elim
theorem vals_cls {K : PySem.W.Frag} {Z : Fz} : ∀ {cs : List D} {vs : List V}, DVs K Z vs cs → allVal cs = true → Paired ClsV vs (vs.map clsU)
  | [], _, .nil, _ => .nil
  | c :: cs, _, .cons h1 h2, h => by
    cases h1 with
    | val f => exact .cons (flat_cls f) (vals_cls h2 h)
    | _ => cases h
theorem isi_kit {K : PySem.W.Frag} {Z : Fz} {x : D} {t : Value} (hx : ∀ c b, isiOne K x c = some b → PySem.W.kitOne K t (clsU c) = some b) : ∀ {cs : List D} {vs : List V} {b : Bool}, DVs K Z vs cs → isiSome K x cs = some b → PySem.W.kitAny K t (vs.map clsU) = some b
  | [], _, b, .nil, h => by
    cases h
    rfl
  | c :: cs, _, b, .cons (v := v) h1 h2, h => by
    cases h1 with
    | val f =>
      have h' : (match isiOne K x v with | some true => some true | some false => isiSome K x cs | none => none) = some b := h
      cases e : isiOne K x v with
      | none => rw [e] at h'; cases h'
      | some k =>
        rw [e] at h'
        have hk := hx v k e
        cases k with
        | true =>
          cases h'
          exact kitAny_cons hk (fun z => nomatch z) (fun _ => rfl)
        | false => exact kitAny_cons hk (fun _ => isi_kit hx h2 h') (fun z => nomatch z)
    | _ => cases h
def rIsiD (K : PySem.W.Frag) : List V → Hp → VK → Prop := fun xs H Q => ((rIsi K xs H Q ∨ rIsiT2 K xs H Q) ∨ rIsE2 K xs H Q) ∨ rIsE3 K xs H Q
theorem isiOne_ty {K : PySem.W.Frag} {x : D} {n : String} (hn : tyName x = some n) : ∀ c b, isiOne K x c = some b → PySem.W.kitOne K (.type n) (clsU c) = some b := fun c b h => by
  have hx : ∀ d, x ≠ .exc d := fun d e => by
    subst e
    cases hn
  cases c with
  | ty m =>
    have h' : (tyName x).bind (fun a => isT a m) = some b := by
      cases x <;> first | exact h | exact absurd rfl (hx _)
    rw [hn] at h'
    exact kit_ty (isT_kit hn h')
  | _ => cases x <;> first | cases h | exact absurd rfl (hx _)
theorem isiOne_ex {K : PySem.W.Frag} {x : D} {c : V} {b : Bool} (h : isiOne K x c = some b) : (∃ n, tyName x = some n) ∨ ∃ d, x = .exc d := by
  cases x with
  | exc d => exact .inr ⟨d, rfl⟩
  | edict => exact .inl ⟨_, rfl⟩
  | ref n => cases c <;> cases h
  | val v => cases c <;> cases h
  | _ => exact .inl ⟨_, rfl⟩
theorem o_isi : CallR X (.builtin "isinstance") (rIsiD X.K) ∧ CallD X B (rIsiD X.K) (fIsi X.K) := ⟨((call_isi.or call_isiT2).or call_isE2).or call_isE3, fun {Z S Γ σ H fp ofp xs vs Q P} r bv h q => by
  unfold fIsi at h
  split at h
  · rename_i x c
    obtain ⟨b, e, h⟩ := h
    cases bv with
    | cons b1 b2 =>
      cases b2 with
      | cons b2 b3 =>
        cases b3
        cases b2.dv (fun _ z => nomatch z) with
        | val f =>
          rcases isiOne_ex e with ⟨n, hn⟩ | ⟨d, rfl⟩
          · exact .inl (.inl (.inl ⟨_, _, .type n, clsU c, b, rfl, flat_cls f, b1.ty r hn, isiOne_ty hn _ _ e, q _ h Z H _ r (.refl _ _ _) (.bl _)⟩))
          · cases b1.dv (fun _ z => nomatch z) with
            | exc k1 k2 =>
              refine .inl (.inr ⟨_, _, _, clsU c, b, rfl, r.fr _ _ k1, k2, flat_cls f, ?_, q _ h Z H _ r (.refl _ _ _) (.bl _)⟩)
              cases c <;> exact e
  · rename_i x cs
    obtain ⟨⟨hne, hv⟩, b, e, h⟩ := h
    cases bv with
    | cons b1 b2 =>
      cases b2 with
      | cons b2 b3 =>
        cases b3
        obtain ⟨tp, us, rfl, _, hT, dT⟩ := b2.tup r
        have pc := vals_cls dT hv
        by_cases hn : ∃ n, tyName x = some n
        · obtain ⟨n, hn⟩ := hn
          exact .inl (.inl (.inr ⟨_, tp, us, .type n, _, b, rfl, hT, pc, b1.ty r hn, isi_kit (isiOne_ty hn) dT e, q _ h Z H _ r (.refl _ _ _) (.bl _)⟩))
        · cases b1.dv (fun ds z => hn ⟨_, by rw [z]; rfl⟩) with
          | exc k1 k2 => exact .inr ⟨_, _, tp, us, _, b, rfl, hT, r.fr _ _ k1, k2, pc, isi_kit (fun c b' h' => by cases c <;> exact h') dT e, q _ h Z H _ r (.refl _ _ _) (.bl _)⟩
          | ref k =>
            cases cs with
            | nil => exact absurd rfl hne
            | cons c cs => cases c <;> first | (cases e; done) | (rename_i v; cases v <;> cases e)
          | val f =>
            cases cs with
            | nil => exact absurd rfl hne
            | cons c cs => cases c <;> first | (cases e; done) | (rename_i v; cases v <;> cases e)
          | _ => exact absurd ⟨_, rfl⟩ hn
  · exact h.elim⟩
/-! ### other built-ins -/
variable {a b e : Expr} {ta tb te : DE} {pos p2 : Pos} {to : DA} {es : List Expr} {tr : DA}
def fLen : List D → (D → Prop) → Prop := fun xs P => match xs with
  | [.lst ds] => P (.int ds.length)
  | [.tup ds] => P (.int ds.length)
  | [.str z] => sz z.length ∧ P (.int z.length)
  | _ => False
def rLenD (K : PySem.W.Frag) : List V → Hp → VK → Prop := fun xs H Q => (∃ p ys, xs = [.ref p] ∧ (SqL K H p ys ∨ SqT K H p ys) ∧ Q (.int ys.length) H) ∨ (∃ z, xs = [.str z] ∧ z.length ≤ sizeLine ∧ Q (.int z.length) H)
theorem o_len : CallR X (.builtin "len") (rLenD X.K) ∧ CallD X B (rLenD X.K) fLen := ⟨call_len_seq.or call_len_str, fun {Z S Γ σ H fp ofp xs vs Q P} r bv h q => by
  unfold fLen at h
  split at h
  · cases bv with
    | cons b1 b2 =>
      cases b2
      obtain ⟨p, us, rfl, hs, hd⟩ := b1.list r
      rw [← hd.length] at h
      exact .inl ⟨p, us, rfl, .inl hs, q _ h Z H _ r (.refl _ _ _) (.int _)⟩
  · cases bv with
    | cons b1 b2 =>
      cases b2
      obtain ⟨p, us, rfl, _, hs, hd⟩ := b1.tup r
      rw [← hd.length] at h
      exact .inl ⟨p, us, rfl, .inr hs, q _ h Z H _ r (.refl _ _ _) (.int _)⟩
  · cases bv with
    | cons b1 b2 =>
      cases b2
      cases b1.str
      exact .inr ⟨_, rfl, h.1.ok, q _ h.2 Z H _ r (.refl _ _ _) (.int _)⟩
  · exact h.elim⟩
/-- the truth values of a list -/
def boolsOf : List D → Option (List Bool)
  | [] => some []
  | .bl b :: r => (boolsOf r).map (b :: ·)
  | _ => none
theorem boolsOf_map : ∀ bs : List Bool, boolsOf (bs.map D.bl) = some bs
  | [] => rfl
  | b :: bs => by
    show (boolsOf (bs.map D.bl)).map (b :: ·) = _
    rw [boolsOf_map bs]
    rfl
theorem boolsOf_eq : ∀ {ds : List D} {bs : List Bool}, boolsOf ds = some bs → ds = bs.map D.bl
  | [], bs, h => by
    cases h
    rfl
  | d :: ds, bs, h => by
    cases d with
    | bl b =>
      have h' : (boolsOf ds).map (b :: ·) = some bs := h
      cases e : boolsOf ds with
      | none => rw [e] at h'; cases h'
      | some cs =>
        rw [e] at h'
        cases h'
        rw [boolsOf_eq e]
        rfl
    | _ => cases h
def fAll : List D → (D → Prop) → Prop := fun xs P => match xs with
  | [.lst ds] => ∃ bs, boolsOf ds = some bs ∧ P (.bl (bs.all id))
  | _ => False
def fAny : List D → (D → Prop) → Prop := fun xs P => match xs with
  | [.lst ds] => ∃ bs, boolsOf ds = some bs ∧ P (.bl (bs.any id))
  | _ => False
theorem o_all (hc : X.calm = true) : CallR X (.builtin "all") (rAll X.K) ∧ CallD X B (rAll X.K) fAll := ⟨cr_all hc, fun {Z S Γ σ H fp ofp xs vs Q P} r bv h q => by
  unfold fAll at h
  split at h
  · obtain ⟨bs, e, h⟩ := h
    cases bv with
    | cons b1 b2 =>
      cases b2
      obtain ⟨p, us, rfl, hs, hd⟩ := b1.list r
      rw [boolsOf_eq e] at hd
      rw [hd.of_bls] at hs
      exact ⟨p, bs, rfl, hs, q _ h Z H _ r (.refl _ _ _) (.bl _)⟩
  · exact h.elim⟩
theorem o_any (hc : X.calm = true) : CallR X (.builtin "any") (rAny X.K) ∧ CallD X B (rAny X.K) fAny := ⟨cr_any hc, fun {Z S Γ σ H fp ofp xs vs Q P} r bv h q => by
  unfold fAny at h
  split at h
  · obtain ⟨bs, e, h⟩ := h
    cases bv with
    | cons b1 b2 =>
      cases b2
      obtain ⟨p, us, rfl, hs, hd⟩ := b1.list r
      rw [boolsOf_eq e] at hd
      rw [hd.of_bls] at hs
      exact ⟨p, bs, rfl, hs, q _ h Z H _ r (.refl _ _ _) (.bl _)⟩
  · exact h.elim⟩
def fMax2 : List D → (D → Prop) → Prop := fun xs P => match xs with
  | [.int i, .int j] => P (.int (if j > i then j else i))
  | _ => False
def fMin2 : List D → (D → Prop) → Prop := fun xs P => match xs with
  | [.int i, .int j] => P (.int (if j < i then j else i))
  | _ => False
theorem o_max2 (hc : X.calm = true) : CallR X (.builtin "max") (fun xs H Q => ∃ i j, xs = [.int i, .int j] ∧ Q (.int (if j > i then j else i)) H) ∧ CallD X B (fun xs H Q => ∃ i j, xs = [.int i, .int j] ∧ Q (.int (if j > i then j else i)) H) fMax2 := ⟨call_max2 hc, fun {Z S Γ σ H fp ofp xs vs Q P} r bv h q => by
  unfold fMax2 at h
  split at h
  · cases bv with
    | cons b1 b2 =>
      cases b2 with
      | cons b2 b3 =>
        cases b3
        cases b1.int
        cases b2.int
        exact ⟨_, _, rfl, q _ h Z H _ r (.refl _ _ _) (.int _)⟩
  · exact h.elim⟩
theorem o_min2 (hc : X.calm = true) : CallR X (.builtin "min") (fun xs H Q => ∃ i j, xs = [.int i, .int j] ∧ Q (.int (if j < i then j else i)) H) ∧ CallD X B (fun xs H Q => ∃ i j, xs = [.int i, .int j] ∧ Q (.int (if j < i then j else i)) H) fMin2 := ⟨call_min2 hc, fun {Z S Γ σ H fp ofp xs vs Q P} r bv h q => by
  unfold fMin2 at h
  split at h
  · cases bv with
    | cons b1 b2 =>
      cases b2 with
      | cons b2 b3 =>
        cases b3
        cases b1.int
        cases b2.int
        exact ⟨_, _, rfl, q _ h Z H _ r (.refl _ _ _) (.int _)⟩
  · exact h.elim⟩
def fInt : List D → (D → Prop) → Prop := fun xs P => match xs with
  | [.int i] => P (.int i)
  | [.bl k] => P (.int (if k then 1 else 0))
  | _ => False
theorem o_int : CallR X (.type "int") (fun xs H Q => (∃ i, xs = [.int i] ∧ Q (.int i) H) ∨ ∃ k, xs = [.bl k] ∧ Q (.int (if k then 1 else 0)) H) ∧ CallD X B (fun xs H Q => (∃ i, xs = [.int i] ∧ Q (.int i) H) ∨ ∃ k, xs = [.bl k] ∧ Q (.int (if k then 1 else 0)) H) fInt := ⟨call_int1, fun {Z S Γ σ H fp ofp xs vs Q P} r bv h q => by
  unfold fInt at h
  split at h
  · cases bv with
    | cons b1 b2 =>
      cases b2
      cases b1.int
      exact .inl ⟨_, rfl, q _ h Z H _ r (.refl _ _ _) (.int _)⟩
  · cases bv with
    | cons b1 b2 =>
      cases b2
      cases b1.bl
      exact .inr ⟨_, rfl, q _ h Z H _ r (.refl _ _ _) (.int _)⟩
  · exact h.elim⟩
/-- list(xs) -/
def fList : List D → (List D → Prop) → Prop := fun xs P => match xs with
  | [.lst ds] => P ds
  | [.tup ds] => P ds
  | _ => False
theorem o_list : CallR X (.type "list") (fun xs H Q => ∃ p ys, xs = [.ref p] ∧ (SqL X.K H p ys ∨ SqT X.K H p ys) ∧ ∀ l, H l = none → Q (.ref l) (upd H l (.lst ys))) ∧ CallF X B (fun xs H Q => ∃ p ys, xs = [.ref p] ∧ (SqL X.K H p ys ∨ SqT X.K H p ys) ∧ ∀ l, H l = none → Q (.ref l) (upd H l (.lst ys))) fList :=
  ⟨call_list_of, fun {Z S Γ σ H fp ofp xs vs Q P} r bv h q => by
  have fin : ∀ {us : List V} {ds : List D}, DVs X.K Z us ds → P ds → ∀ l, H l = none → Q (.ref l) (upd H l (.lst us)) := fun {us ds} hd h l hl => by
    obtain ⟨q1, q2, q3, q4⟩ := r.fresh hl
    exact q _ h Z _ l us (r.grow hl) (r.up0 hl) upd_same hd q3 q1 q2 hl
  unfold fList at h
  split at h
  · cases bv with
    | cons b1 b2 =>
      cases b2
      obtain ⟨p, us, rfl, hs, hd⟩ := b1.list r
      exact ⟨p, us, rfl, .inl hs, fin hd h⟩
  · cases bv with
    | cons b1 b2 =>
      cases b2
      obtain ⟨p, us, rfl, _, hs, hd⟩ := b1.tup r
      exact ⟨p, us, rfl, .inr hs, fin hd h⟩
  · exact h.elim⟩
/-- tuple(xs) -/
def fTuple : List D → (D → Prop) → Prop := fun xs P => match xs with
  | [.lst ds] => P (.tup ds)
  | [.tup ds] => P (.tup ds)
  | _ => False
theorem o_tuple : CallR X (.type "tuple") (fun xs H Q => ∃ p ys, xs = [.ref p] ∧ ((SqL X.K H p ys ∧ ∀ l, H l = none → Q (.ref l) (upd H l (.tup ys))) ∨ (SqT X.K H p ys ∧ Q (.ref p) H))) ∧ CallD X B (fun xs H Q => ∃ p ys, xs = [.ref p] ∧ ((SqL X.K H p ys ∧ ∀ l, H l = none → Q (.ref l) (upd H l (.tup ys))) ∨ (SqT X.K H p ys ∧ Q (.ref p) H))) fTuple :=
  ⟨call_tuple_of, fun {Z S Γ σ H fp ofp xs vs Q P} r bv h q => by
  unfold fTuple at h
  split at h
  · cases bv with
    | cons b1 b2 =>
      cases b2
      obtain ⟨p, us, rfl, hs, hd⟩ := b1.list r
      refine ⟨p, us, rfl, .inl ⟨hs, fun l hl => ?_⟩⟩
      have u := r.upF (o := .tup us) hl
      exact q _ h _ _ _ (r.growF hl) u (.tup (SqT.of (show upd Z.F l (.tup us) l = _ from upd_same)) (hd.up u))
  · cases bv with
    | cons b1 b2 =>
      cases b2
      obtain ⟨p, us, rfl, hf, hs, hd⟩ := b1.tup r
      exact ⟨p, us, rfl, .inr ⟨hs, q _ h Z H _ r (.refl _ _ _) (.tup hf hd)⟩⟩
  · exact h.elim⟩
/-- tuple(reversed(x)) -/
def dTupRev (te : DE) : DE := fun Γ S Q => te Γ S fun x S1 => match x with
  | .lst ds => Q (.tup ds.reverse) S1
  | .tup ds => Q (.tup ds.reverse) S1
  | _ => False
/-- sep.join(xs) -/
def strsOf : List D → Option (List Str)
  | [] => some []
  | .str b :: r => (strsOf r).map (b :: ·)
  | _ => none
theorem strsOf_map : ∀ bs : List Str, strsOf (bs.map D.str) = some bs
  | [] => rfl
  | b :: bs => by
    show (strsOf (bs.map D.str)).map (b :: ·) = _
    rw [strsOf_map bs]
    rfl
theorem strsOf_eq : ∀ {ds : List D} {bs : List Str}, strsOf ds = some bs → ds = bs.map D.str
  | [], bs, h => by
    cases h
    rfl
  | d :: ds, bs, h => by
    cases d with
    | str b =>
      have h' : (strsOf ds).map (b :: ·) = some bs := h
      cases e : strsOf ds with
      | none => rw [e] at h'; cases h'
      | some cs =>
        rw [e] at h'
        cases h'
        rw [strsOf_eq e]
        rfl
    | _ => cases h
/-- a text's method of one argument -/
def dM1 (f : Str → D → (D → Prop) → Prop) (ta te : DE) : DE := fun Γ S Q => ta Γ S fun x S1 => match x with
  | .str z => te Γ S1 fun y S2 => f z y fun r => Q r S2
  | _ => False
def dM1F (f : Str → D → (List D → Prop) → Prop) (ta te : DE) : DA := fun Γ S Q => ta Γ S fun x S1 => match x with
  | .str z => te Γ S1 fun y S2 => f z y fun r => Q r S2
  | _ => False
def fJoin : Str → D → (D → Prop) → Prop := fun a y P => match y with
  | .lst ds => ∃ ys, strsOf ds = some ys ∧ (ys.map (·.length)).sum + ys.length * a.length ≤ 1000000 ∧ P (.str (Txt.join a ys))
  | .tup ds => ∃ ys, strsOf ds = some ys ∧ (ys.map (·.length)).sum + ys.length * a.length ≤ 1000000 ∧ P (.str (Txt.join a ys))
  | _ => False
theorem pd_join {apos : Pos} (ho : PB X B a ta) (he : PB X B e te) (hs : starEach [e] X.env = [(false, eval e X.env)] := by rfl) (hbase : attributeBase a "join" X.env (eval a X.env) = eval a X.env := by rfl) (hline : (apos.endLine == pos.line) = true := by rfl) :
    PD X B (.Call (.Attribute a "join" apos) [e] [] pos) (dM1 fJoin ta te) := PE.weak (pe_join ho he hs hbase hline) fun σ H Q h => by
  obtain ⟨Z, S, Γ, fp, ofp, P, r, h, q⟩ := h
  refine ⟨Z, S, Γ, fp, ofp, _, r, h, fun x S1 h1 Z1 H1 fp1 vx r1 l1 b1 => ?_⟩
  cases x with
  | str z =>
    cases b1.str
    refine ⟨⟨z, rfl⟩, Z1, S1, Γ, fp1, ofp, _, r1, h1, fun y S2 h2 Z2 H2 fp2 vy r2 l2 b2 => ?_⟩
    cases y with
    | lst ds =>
      obtain ⟨ys, e1, hz, h3⟩ := h2
      obtain ⟨p, us, rfl, hs, hd⟩ := b2.list r2
      rw [strsOf_eq e1] at hd
      rw [hd.of_strs] at hs
      exact ⟨z, p, ys, rfl, rfl, .inl hs, Nat.le_trans hz (by decide), q _ S2 h3 Z2 H2 fp2 _ r2 (l1.trans l2) (.str _)⟩
    | tup ds =>
      obtain ⟨ys, e1, hz, h3⟩ := h2
      obtain ⟨p, us, rfl, _, hs, hd⟩ := b2.tup r2
      rw [strsOf_eq e1] at hd
      rw [hd.of_strs] at hs
      exact ⟨z, p, ys, rfl, rfl, .inr hs, Nat.le_trans hz (by decide), q _ S2 h3 Z2 H2 fp2 _ r2 (l1.trans l2) (.str _)⟩
    | _ => exact False.elim h2
  | _ => exact False.elim h1
def fSplit : Str → D → (List D → Prop) → Prop := fun a y P => match y with
  | .str b => (b.length == 0) = false ∧ sz (a.length + 2) ∧ P ((Txt.split a b).map D.str)
  | _ => False
theorem pf_split {apos : Pos} (ho : PB X B a ta) (he : PB X B e te) (hs : starEach [e] X.env = [(false, eval e X.env)] := by rfl) (hbase : attributeBase a "split" X.env (eval a X.env) = eval a X.env := by rfl) (hline : (apos.endLine == pos.line) = true := by rfl) :
    PF X B (.Call (.Attribute a "split" apos) [e] [] pos) (dM1F fSplit ta te) := PE.weak (pe_split ho he hs hbase hline) fun σ H Q h => by
  obtain ⟨Z, S, Γ, fp, ofp, P, r, h, q⟩ := h
  refine ⟨Z, S, Γ, fp, ofp, _, r, h, fun x S1 h1 Z1 H1 fp1 vx r1 l1 b1 => ?_⟩
  cases x with
  | str z =>
    cases b1.str
    refine ⟨⟨z, rfl⟩, Z1, S1, Γ, fp1, ofp, _, r1, h1, fun y S2 h2 Z2 H2 fp2 vy r2 l2 b2 => ?_⟩
    cases y with
    | str y =>
      cases b2.str
      refine ⟨z, y, rfl, rfl, h2.1, h2.2.1.ok, fun p hp => ?_⟩
      obtain ⟨q1, q2, q3, q4⟩ := r2.fresh hp
      exact q _ S2 h2.2.2 Z2 _ fp2 p _ (r2.grow hp) ((l1.trans l2).trans (r2.up0 hp)) upd_same (.strs _) q3 q1 q2 ((l1.trans l2).there _ hp)
    | _ => exact False.elim h2
  | _ => exact False.elim h1
/-! ### the signs of a text, in a row -/
def signsOf (x : Str) : List D := x.cps.toList.map fun c => .str ⟨#[c]⟩
theorem it_str {K : PySem.W.Frag} {Z : Fz} {x : Str} : ItOk K B Z (Its x) (signsOf x) := fun i Z1 S Γ σ H fp ofp r l => by
  refine ⟨fun y e => ?_, fun e => ?_⟩
  · unfold signsOf at e
    rw [List.getElem?_map] at e
    cases q : x.cps.toList[i]? with
    | none => rw [q] at e; cases e
    | some c =>
      rw [q] at e
      cases e
      have hi := (List.getElem?_eq_some_iff.mp q).1
      rw [Array.length_toList] at hi
      refine ⟨hi, fun v H' y => ?_⟩
      obtain ⟨rfl, c', e1, rfl⟩ := y
      rw [← Array.getElem?_toList, q] at e1
      cases e1
      exact ⟨Z1, r, .refl _ _ _, .str _⟩
  · unfold signsOf at e
    have := List.getElem?_eq_none_iff.mp e
    rw [List.length_map, Array.length_toList] at this
    exact this
def dWs (te : DE) : DA := fun Γ S Q => te Γ S fun x S1 => match x with
  | .str z => Q (signsOf z) S1
  | _ => False
theorem pi_dstr {tg : Expr} (he : PD X B e te) : PID X B tg e (dWs te) := PI.weak (pi_str he) fun σ H Rr h => by
  obtain ⟨Z, S, Γ, fp, ofp, P, r, h, q⟩ := h
  refine ⟨Z, S, Γ, fp, ofp, _, r, h, fun d S1 p1 Z1 H1 fp1 v1 r1 l1 dv1 => ?_⟩
  cases dv1 with
  | str z => exact ⟨_, rfl, q _ S1 p1 Z1 H1 fp1 r1 l1 _ it_str⟩
  | _ => exact False.elim p1
/-! ### list + list -/
def rCatL (K : PySem.W.Frag) : R2 := fun x y H Q => ∃ l b xs zs, x = .ref l ∧ y = .ref b ∧ SqL K H l xs ∧ SqL K H b zs ∧ xs.length + zs.length ≤ sizeLine ∧ ∀ p, H p = none → Q (.ref p) (upd H p (.lst (xs ++ zs)))
theorem op_catL : OpR X (binaryOp .Add) (rCatL X.K) := by
  intro pins s σ H x y v u Q I rx ry h
  obtain ⟨l, b, xs, zs, rfl, rfl, hH, hB, hz, q⟩ := h
  cases rx
  cases ry
  obtain ⟨its, r, h1, _⟩ := I.list hH
  obtain ⟨its2, r2, g1, _⟩ := I.list hB
  obtain ⟨⟨cls, dd, data, sl⟩, n, ho, hc, hd0, hd⟩ := h1
  obtain ⟨⟨cls2, dd2, data2, sl2⟩, n2, ho2, hc2, hd02, hd2⟩ := g1
  simp only at hc hd hc2 hd2
  subst hc hd hc2 hd2
  have e : its.toArray ++ its2.toArray = (its ++ its2).toArray := by simp
  have hz2 : its.length + its2.length ≤ sizeLine := by rw [← r.length, ← r2.length]; exact hz
  refine concat_meets ⟨_, ho, rfl⟩ ⟨_, ho2, rfl⟩ noFill_list_add seq_list_add PySem.F.slot_list_add PySem.F.entry_list_add (PySem.F.args_list_add_2 _ _) (list_addW l b its.toArray its2.toArray n n2 dd dd2 sl sl2 (by simpa using hz2)) ⟨ho, ho2, ?_⟩
  rw [e]
  exact ⟨.ref _, _, I.lnew (t' := s.toks) (r.append r2) (by rw [List.length_append]; exact hz), rfl, q _ I.fresh⟩
def fCat : D → D → (List D → Prop) → Prop := fun x y P => match x, y with
  | .lst a, .lst b => sz (a.length + b.length) ∧ P (a ++ b)
  | _, _ => False
theorem o_cat : OpR X (binaryOp .Add) (rCatL X.K) ∧ OpF X B (rCatL X.K) fCat := ⟨op_catL, fun {Z S Γ σ H fp ofp x y vx vy Q P} r bx by_ h q => by
  cases x with
  | lst i =>
    cases y with
    | lst j =>
      obtain ⟨a, xs, rfl, s1, d1⟩ := bx.list r
      obtain ⟨b, ys, rfl, s2, d2⟩ := by_.list r
      refine ⟨a, b, xs, ys, rfl, rfl, s1, s2, by rw [d1.length, d2.length]; exact h.1.ok, fun l hl => ?_⟩
      obtain ⟨q1, q2, q3, q4⟩ := r.fresh hl
      exact q _ h.2 Z _ l _ (r.grow hl) (r.up0 hl) upd_same (d1.append d2) q3 q1 q2 hl
    | _ => exact False.elim h
  | _ => exact False.elim h⟩
end
end DL
namespace DL
open PySem PySem.Spec PyProof.Rows L2
/-! ### cells -/
section
variable {K : PySem.W.Frag} {B : Bs} {Z Z' : Fz} {S : Sto} {Γ : Gm} {σ : L2.St} {H H' : Hp} {fp ofp : List Addr}
/-- a cell's own object is another (its other parts as they were) -/
theorem R.put (r : R K B Z S Γ σ H fp ofp) {n : Nat} {o o' : O} {ho : HO} (e : cellAt S n = some o) (h : ∀ as, OR K Z H (Z.ρ n) o as → (∃ bs, as = Z.ρ n :: bs) ∧ ∀ H', H' (Z.ρ n) = some ho → (∀ a u, a ≠ Z.ρ n → H a = some u → H' a = some u) → as.Nodup → OR K Z H' (Z.ρ n) o' as) :
    R K B Z (S.set n o') Γ σ (upd H (Z.ρ n) ho) fp ofp := by
  obtain ⟨l, as, rr, e1, h1, k⟩ := r.st.get e
  simp only [Nat.zero_add] at h1 k
  obtain ⟨⟨bs, eas⟩, k2⟩ := h as h1
  have nd := List.nodup_append.mp r.nd
  have ndf := nd.1
  rw [e1] at ndf
  have ndl := List.nodup_append.mp ndf
  have ndl2 := List.nodup_append.mp ndl.1
  have ma : Z.ρ n ∈ as := by rw [eas]; exact List.mem_cons_self
  have mf : Z.ρ n ∈ fp := by rw [e1]; exact List.mem_append_left _ (List.mem_append_right _ ma)
  have na : ∀ b u, b ≠ Z.ρ n → H b = some u → upd H (Z.ρ n) ho b = some u := fun b u q e => by
    rw [upd_ne q]
    exact e
  have hl : ∀ a ∈ l, a ≠ Z.ρ n := fun a m z => ndl2.2.2 a m _ ma z
  have hr : ∀ a ∈ rr, a ≠ Z.ρ n := fun a m z => ndl.2.2 _ (List.mem_append_right _ ma) a m z.symm
  have fF : Z.F (Z.ρ n) = none := r.nf _ (List.mem_append_left _ mf)
  have h2 := k Z (upd H (Z.ρ n) ho) o' as (.refl _) (by have := r.kk; omega) (fun a m u e => na a u (hl a m) e) (fun a m u e => na a u (hr a m) e) (k2 _ upd_same na ndl2.2.1)
  rw [← e1] at h2
  refine ⟨by rw [List.length_set]; exact r.kk, fun b u e => na b u (fun z => by rw [z, fF] at e; cases e) (r.fr b u e), h2, r.gm.mono (.refl _) fun a m u e => na a u (fun z => nd.2.2 _ mf a m z.symm) e, r.nd, r.nf,
    ⟨r.ext.le, r.ext.fl, fun b u e q => na b u (fun z => ?_) (r.ext.keep b u e q), fun b e => ?_, r.ext.new, r.ext.frz⟩, r.of⟩
  · subst z
    rcases r.ext.new _ (List.mem_append_left _ mf) with z | z
    · exact q z
    · rw [z] at e
      cases e
  · by_cases z : b = Z.ρ n
    · rw [z, upd_same] at e
      cases e
    · rw [upd_ne z] at e
      exact r.ext.there b e
theorem Up.put {n : Nat} {ho : HO} (m : Z.ρ n ∈ fp) (h : ∃ o, H (Z.ρ n) = some o) : Up Z H fp Z (upd H (Z.ρ n) ho) fp := ⟨.refl _, fun a u e q => by
  rw [upd_ne fun z => q (by rw [z]; exact m)]
  exact e, fun _ m => .inl m, fun a e => by
  by_cases z : a = Z.ρ n
  · rw [z, upd_same] at e
    cases e
  · rw [upd_ne z] at e
    exact e, fun _ h n => absurd h n⟩
theorem SR.snoc : ∀ {i : Nat} {S : Sto} {fp : List Addr} {o : O} {as : List Addr}, SR K Z H i S fp → OR K Z H (Z.ρ (i + S.length)) o as → SR K Z H i (S ++ [o]) (fp ++ as)
  | i, [], _, _, as, h, h2 => by
    cases h
    have := SR.cons h2 (.nil (i := i + 1))
    rw [List.append_nil] at this
    exact this
  | i, o :: S, _, _, as, h, h2 => by
    cases h with
    | cons h1 h3 =>
      have e : i + (o :: S).length = i + 1 + S.length := by rw [List.length_cons]; omega
      rw [e] at h2
      have := SR.cons h1 (SR.snoc h3 h2)
      rw [← List.append_assoc] at this
      exact this
def Fz.more (Z : Fz) (p : Addr) : Fz := ⟨Z.F, fun n => if n = Z.k then p else Z.ρ n, Z.k + 1⟩
theorem le_more {p : Addr} : Z.le (Z.more p) := ⟨fun _ _ h => h, Nat.le_succ _, fun n h => if_neg (Nat.ne_of_lt h)⟩
/-- a new cell -/
theorem R.box (r : R K B Z S Γ σ H fp ofp) {p : Addr} {ho : HO} {o : O} (h : H p = none) (k : ∀ Z' H', Z.le Z' → H' p = some ho → OR K Z' H' p o [p]) : R K B (Z.more p) (S ++ [o]) Γ σ (upd H p ho) (fp ++ [p]) ofp := by
  obtain ⟨q1, q2, q3, q4⟩ := r.fresh h
  have le := le_more (Z := Z) (p := p)
  have g := r.grow (o := ho) h
  have nd := List.nodup_append.mp r.nd
  refine ⟨?_, g.fr, ?_, g.gm.mono le fun _ _ _ e => e, ?_, fun a m => ?_, ⟨g.ext.le.trans le, g.ext.fl.trans le, g.ext.keep, g.ext.there, fun a m => ?_, g.ext.frz⟩, r.of⟩
  · show Z.k + 1 = (S ++ [o]).length
    rw [List.length_append, r.kk]
    rfl
  · refine SR.snoc (g.st.mono le (by have := r.kk; omega) fun _ _ _ e => e) ?_
    have e : (Z.more p).ρ (0 + S.length) = p := by
      show (if 0 + S.length = Z.k then p else Z.ρ (0 + S.length)) = p
      rw [if_pos (by rw [r.kk]; omega)]
    rw [e]
    exact k _ _ le upd_same
  · have e : fp ++ [p] ++ ofp = fp ++ p :: ofp := by simp [List.append_assoc]
    rw [e]
    exact (List.perm_middle.nodup_iff).mpr (List.nodup_cons.mpr ⟨fun z => (List.mem_append.mp z).elim q1 q2, r.nd⟩)
  · simp only [List.mem_append, List.mem_singleton] at m
    rcases m with (m | m) | m
    · exact r.nf a (List.mem_append_left _ m)
    · rw [m]; exact q3
    · exact r.nf a (List.mem_append_right _ m)
  · simp only [List.mem_append, List.mem_singleton] at m
    rcases m with (m | m) | m
    · exact r.ext.new a (List.mem_append_left _ m)
    · rw [m]; exact .inr q4
    · exact r.ext.new a (List.mem_append_right _ m)
theorem Up.box {p : Addr} {ho : HO} (h : H p = none) : Up Z H fp (Z.more p) (upd H p ho) (fp ++ [p]) := ⟨le_more, fun a u e _ => by
  rw [upd_ne (ne_of_none e h)]
  exact e, fun a m => by
  rcases List.mem_append.mp m with m | m
  · exact .inl m
  · rw [List.mem_singleton.mp m]
    exact .inr h, fun a e => by
  by_cases z : a = p
  · rw [z]
    exact h
  · rw [upd_ne z] at e
    exact e, fun _ h n => absurd h n⟩
/-! ### a dict of written keys -/
def itemAt : List D → Nat → Option D
  | [], _ => none
  | x :: _, 0 => some x
  | _ :: r, i + 1 => itemAt r i
theorem KvR.val : ∀ {nm : List Str} {kvs : List (Key × V)} {ds : List D} {j : Nat} {f : Str} {d : D}, KvR K Z nm kvs ds → nm.Nodup → nm[j]? = some f → itemAt ds j = some d → ∃ v, valV kvs (Sum.inr f : Key) = some v ∧ DV K Z v d
  | _, _, _, _, _, _, .nil, _, _, e => by cases e
  | _, _, _, 0, f, d, .cons h q, _, e1, e2 => by
    cases e1
    cases e2
    exact ⟨_, valV_pos rfl, h⟩
  | k :: nm, _, _, j + 1, f, d, .cons h q, n, e1, e2 => by
    obtain ⟨v, h1, h2⟩ := KvR.val (j := j) q (List.nodup_cons.mp n).2 (by simpa using e1) e2
    refine ⟨v, ?_, h2⟩
    rw [valV_neg]
    · exact h1
    · intro z
      have z' : k = f := Sum.inr.inj z
      subst z'
      exact (List.nodup_cons.mp n).1 (List.mem_of_getElem? (show nm[j]? = some k by simpa using e1))
theorem KvR.len : ∀ {nm : List Str} {kvs : List (Key × V)} {ds : List D}, KvR K Z nm kvs ds → kvs.length = nm.length
  | _, _, _, .nil => rfl
  | _, _, _, .cons _ q => by rw [List.length_cons, List.length_cons, KvR.len q]
theorem KvR.any : ∀ {nm : List Str} {kvs : List (Key × V)} {ds : List D} {f : Str}, KvR K Z nm kvs ds → f ∈ nm → (kvs.any fun kv => decide (kv.1 = (Sum.inr f : Key))) = true
  | _, _, _, _, .nil, m => by cases m
  | _, _, _, _, .cons _ q, m => by
    rw [List.any_cons, Bool.or_eq_true]
    rcases List.mem_cons.mp m with e | m
    · subst e
      exact .inl (decide_eq_true rfl)
    · exact .inr (KvR.any q m)
theorem KvR.mapPut : ∀ {nm : List Str} {kvs : List (Key × V)} {ds : List D} {j : Nat} {f : Str} {v : V} {d : D}, KvR K Z nm kvs ds → nm.Nodup → nm[j]? = some f → DV K Z v d →
    KvR K Z nm (kvs.map fun kv => if kv.1 = (Sum.inr f : Key) then (kv.1, v) else kv) (ds.set j d)
  | _, _, _, _, _, _, _, .nil, _, e, _ => by simp at e
  | k :: nm, _, _, 0, f, v, d, .cons (r := r) h q, n, e, dv => by
    cases e
    rw [List.map_cons, if_pos rfl]
    have hn : ∀ {nm' : List Str} {kvs : List (Key × V)} {ds : List D}, KvR K Z nm' kvs ds → k ∉ nm' → (kvs.map fun kv => if kv.1 = (Sum.inr k : Key) then (kv.1, v) else kv) = kvs := by
      intro nm' kvs ds q
      induction q with
      | nil => intro _; rfl
      | cons h q ih =>
        intro hk
        rw [List.map_cons, ih fun z => hk (List.mem_cons_of_mem _ z), if_neg]
        intro z
        exact hk (by rw [← Sum.inr.inj z]; exact List.mem_cons_self)
    rw [hn q (List.nodup_cons.mp n).1]
    exact .cons dv q
  | k :: nm, _, _, j + 1, f, v, d, .cons h q, n, e, dv => by
    have e' : nm[j]? = some f := by simpa using e
    rw [List.map_cons, if_neg]
    · exact .cons h (KvR.mapPut q (List.nodup_cons.mp n).2 e' dv)
    · intro z
      have z' : k = f := Sum.inr.inj z
      subst z'
      exact (List.nodup_cons.mp n).1 (List.mem_of_getElem? e')
theorem KvR.put {nm : List Str} {kvs : List (Key × V)} {ds : List D} {j : Nat} {f : Str} {v : V} {d : D} (q : KvR K Z nm kvs ds) (n : nm.Nodup) (e : nm[j]? = some f) (dv : DV K Z v d) : KvR K Z nm (putK kvs (Sum.inr f : Key) v) (ds.set j d) := by
  unfold putK
  rw [if_pos (q.any (List.mem_of_getElem? e))]
  exact q.mapPut n e dv
end
section
variable {X : Cx} {B : Bs} {a b e o i value : Expr} {ta tb te to' ti tv : DE} {pos pos' : Pos}
/-- o["f"], o a dict of written keys -/
def dRecGet (nm : List Str) (j : Nat) (to : DE) : DE := fun Γ S Q => to Γ S fun x S1 => match x with
  | .ref n => ∃ ds, cellAt S1 n = some (.dct nm ds) ∧ ∃ d, itemAt ds j = some d ∧ Q d S1
  | _ => False
theorem pd_recget {nm : List Str} {f : Str} {kp} {kj} (hu : X.A.units + 1 < cLine) (nd : nm.Nodup) (j : Nat) (hj : nm[j]? = some f) (ho : PD X B o to') : PD X B (.Subscript o (.Constant (.str f) kj kp) pos) (dRecGet nm j to') :=
  PE.weak (pe_dget hu ho pe_str (fun _ _ => rfl)) fun σ H Q h => by
  obtain ⟨Z, S, Γ, fp, ofp, P, r, h, q⟩ := h
  refine ⟨Z, S, Γ, fp, ofp, _, r, h, fun x S1 h1 Z1 H1 fp1 vx r1 l1 b1 => ?_⟩
  cases x with
  | ref n =>
    obtain ⟨ds, e1, d, e2, h2⟩ := h1
    cases b1
    obtain ⟨as, c, _⟩ := r1.cell e1
    cases c with
    | dct k1 k2 =>
      obtain ⟨v, g1, g2⟩ := k2.val nd hj e2
      refine ⟨_, v, rfl, ?_, q _ S1 h2 Z1 H1 fp1 v r1 l1 g2⟩
      have g := DGet.k (k := Sum.inr f) k1
      rw [g1] at g
      exact g
  | _ => exact False.elim h1
/-- o["f"] = v -/
def dRecSet (nm : List Str) (j : Nat) (to te : DE) : DS := fun DD Γ S => te Γ S fun y S1 => to Γ S1 fun x S2 => match x with
  | .ref n => ∃ ds, cellAt S2 n = some (.dct nm ds) ∧ DD.nx Γ (S2.set n (.dct nm (ds.set j y)))
  | _ => False
theorem ps_recset {nm : List Str} {f : Str} {kp} {kj} (hu : X.A.units + 1 < cLine) (nd : nm.Nodup) (hlen : nm.length ≤ 20) (j : Nat) (hj : nm[j]? = some f) (ho : PD X B o to') (hv : PD X B value tv) (hs : swapsWith value (some (.Subscript o (.Constant (.str f) kj kp) pos')) pos.line X.env = pure false := by rfl) :
    PSD X B (.Assign [.Subscript o (.Constant (.str f) kj kp) pos'] value pos) (dRecSet nm j to' tv) := PS.weak (ps_dput hu ho pe_str hv hs) fun Dn σ H h => by
  obtain ⟨Z, S, Γ, fp, ofp, DD, r, h, ok⟩ := h
  refine ⟨Z, S, Γ, fp, ofp, _, r, h, fun y S1 h1 Z1 H1 fp1 vy r1 l1 b1 => ?_⟩
  refine ⟨Z1, S1, Γ, fp1, ofp, _, r1, h1, fun x S2 h2 Z2 H2 fp2 vx r2 l2 b2 => ?_⟩
  cases x with
  | ref n =>
    obtain ⟨ds, e1, h3⟩ := h2
    cases b2
    obtain ⟨as, c, _⟩ := r2.cell e1
    cases c with
    | dct k1 k2 =>
      refine ⟨_, _, rfl, DPut.k (k := Sum.inr f) k1 (by rw [k2.len]; exact Nat.lt_of_le_of_lt hlen (by decide)), ?_⟩
      refine ok.nx _ _ _ _ _ _ _ (r2.put e1 fun as c => ?_) h3
      cases c with
      | dct k1' k2' =>
        rw [k1] at k1'
        cases k1'
        exact ⟨⟨[], rfl⟩, fun H' g _ _ => .dct g (k2.put nd hj (b1.up l2))⟩
  | _ => exact False.elim h2
end
end DL
namespace DL
open PySem PySem.Spec PyProof.Rows L2
section
variable {K : PySem.W.Frag} {B : Bs} {Z Z' : Fz} {S : Sto} {Γ : Gm} {σ : L2.St} {H H' : Hp} {fp ofp : List Addr}
theorem R.boxG (r : R K B Z S Γ σ H fp ofp) {p : Addr} {ho : HO} {o : O} (q1 : p ∉ fp) (q2 : p ∉ ofp) (q3 : Z.F p = none) (q4 : B.H p = none) (k : ∀ Z' H', Z.le Z' → H' p = some ho → OR K Z' H' p o [p]) : R K B (Z.more p) (S ++ [o]) Γ σ (upd H p ho) (fp ++ [p]) ofp := by
  have le := le_more (Z := Z) (p := p)
  have g := r.other (o := ho) q1 q2 q3 q4
  have nd := List.nodup_append.mp r.nd
  refine ⟨?_, g.fr, ?_, g.gm.mono le fun _ _ _ e => e, ?_, fun a m => ?_, ⟨g.ext.le.trans le, g.ext.fl.trans le, g.ext.keep, g.ext.there, fun a m => ?_, g.ext.frz⟩, r.of⟩
  · show Z.k + 1 = (S ++ [o]).length
    rw [List.length_append, r.kk]
    rfl
  · refine SR.snoc (g.st.mono le (by have := r.kk; omega) fun _ _ _ e => e) ?_
    have e : (Z.more p).ρ (0 + S.length) = p := by
      show (if 0 + S.length = Z.k then p else Z.ρ (0 + S.length)) = p
      rw [if_pos (by rw [r.kk]; omega)]
    rw [e]
    exact k _ _ le upd_same
  · have e : fp ++ [p] ++ ofp = fp ++ p :: ofp := by simp [List.append_assoc]
    rw [e]
    exact (List.perm_middle.nodup_iff).mpr (List.nodup_cons.mpr ⟨fun z => (List.mem_append.mp z).elim q1 q2, r.nd⟩)
  · simp only [List.mem_append, List.mem_singleton] at m
    rcases m with (m | m) | m
    · exact r.nf a (List.mem_append_left _ m)
    · rw [m]; exact q3
    · exact r.nf a (List.mem_append_right _ m)
  · simp only [List.mem_append, List.mem_singleton] at m
    rcases m with (m | m) | m
    · exact r.ext.new a (List.mem_append_left _ m)
    · rw [m]; exact .inr q4
    · exact r.ext.new a (List.mem_append_right _ m)
end
section
variable {X : Cx} {B : Bs} {a b e : Expr} {te : DE} {pos : Pos}
/-! ### {"a": .., "b": ..} -/
def dPs : List (Str × DE) → DA
  | [], _, S, Q => Q [] S
  | (_, te) :: r, Γ, S, Q => te Γ S fun x S1 => dPs r Γ S1 fun xs S2 => Q (x :: xs) S2
def liftPs (K : PySem.W.Frag) (B : Bs) (kes : List (Str × DE)) : List (TE × TE) := kes.map fun p => (tC (.str p.1), liftD K B p.2)
abbrev PPsD (X : Cx) (B : Bs) (pos : Pos) (keys : List (Option Expr)) (values : List Expr) (kes : List (Str × DE)) : Prop := PPs X pos keys values (liftPs X.K B kes)
theorem pps_dnil : PPsD X B pos [] [] [] := pps_nil
theorem pps_dcons {k : Str} {kj kp} {ks : List (Option Expr)} {vs : List Expr} {kes : List (Str × DE)} (hv : PD X B e te) (hr : PPsD X B pos ks vs kes) : PPsD X B pos (some (.Constant (.str k) kj kp) :: ks) (e :: vs) ((k, te) :: kes) := pps_cons pe_str hv hr
theorem pairs_run {K : PySem.W.Frag} : ∀ (kes : List (Str × DE)) {σ : L2.St} {H : Hp} {Q : List (V × V) → Hp → Prop} {Z : Fz} {S : Sto} {Γ : Gm} {fp ofp : List Addr} {P : List D → Sto → Prop}, R K B Z S Γ σ H fp ofp → dPs kes Γ S P →
    (∀ ds S', P ds S' → ∀ Z' H' fp' vs, R K B Z' S' Γ σ H' fp' ofp → Up Z H fp Z' H' fp' → DVs K Z' vs ds → vs.length = kes.length → Q ((kes.map fun p => V.str p.1).zip vs) H') → tPairs (liftPs K B kes) σ H Q
  | [], σ, H, Q, Z, S, Γ, fp, ofp, P, r, h, q => q [] S h Z H fp [] r (.refl _ _ _) .nil rfl
  | (k, te) :: kes, σ, H, Q, Z, S, Γ, fp, ofp, P, r, h, q => by
    refine ⟨Z, S, Γ, fp, ofp, _, r, h, fun x S1 h1 Z1 H1 fp1 vx r1 l1 b1 => ?_⟩
    refine pairs_run kes r1 h1 fun ds S2 p2 Z2 H2 fp2 vs r2 l2 d2 hl => ?_
    exact q _ S2 p2 Z2 H2 fp2 (vx :: vs) r2 (l1.trans l2) (.cons (b1.up l2) d2) (by rw [List.length_cons, List.length_cons, hl])
def dDisp (kes : List (Str × DE)) : DE := fun Γ S Q => dPs kes Γ S fun ds S1 => Q (.ref S1.length) (S1 ++ [.dct (kes.map (·.1)) ds])
theorem merge_new : ∀ (nm : List Str) (vs : List V) (acc : List (Key × V)), nm.Nodup → (∀ f ∈ nm, ∀ p ∈ acc, p.1 ≠ (Sum.inr f : Key)) → vs.length = nm.length → mergeK acc ((nm.map fun f => (Sum.inr f : Key)).zip vs) = acc ++ (nm.map fun f => (Sum.inr f : Key)).zip vs
  | [], vs, acc, _, _, hl => by
    show acc = acc ++ []
    rw [List.append_nil]
  | f :: nm, [], acc, _, _, hl => by simp at hl
  | f :: nm, v :: vs, acc, n, hn, hl => by
    have nn := List.nodup_cons.mp n
    have e1 : putK acc (Sum.inr f : Key) v = acc ++ [(Sum.inr f, v)] := by
      unfold putK
      rw [if_neg]
      intro z
      obtain ⟨p, hp, e⟩ := List.any_eq_true.mp z
      exact hn f List.mem_cons_self p hp (of_decide_eq_true e)
    show mergeK (putK acc (Sum.inr f : Key) v) ((nm.map fun f => (Sum.inr f : Key)).zip vs) = _
    rw [e1, merge_new nm vs _ nn.2 (fun g hg p hp => ?_) (by simpa using hl)]
    · show acc ++ [(Sum.inr f, v)] ++ _ = acc ++ (Sum.inr f, v) :: _
      simp [List.append_assoc]
      rfl
    · rcases List.mem_append.mp hp with hp | hp
      · exact hn g (List.mem_cons_of_mem _ hg) p hp
      · rw [List.mem_singleton.mp hp]
        intro z
        exact nn.1 (by rw [Sum.inr.inj z]; exact hg)
theorem kvr_zip {K : PySem.W.Frag} {Z : Fz} : ∀ {nm : List Str} {vs : List V} {ds : List D}, DVs K Z vs ds → vs.length = nm.length → KvR K Z nm ((nm.map fun f => (Sum.inr f : Key)).zip vs) ds
  | [], _, _, .nil, _ => .nil
  | [], _, _, .cons _ _, h => by simp at h
  | f :: nm, _, _, .nil, h => by simp at h
  | f :: nm, _, _, .cons h1 h2, h => .cons h1 (kvr_zip h2 (by simpa using h))
theorem pd_disp {keys : List (Option Expr)} {values : List Expr} {kes : List (Str × DE)} (h : PPsD X B pos keys values kes) (nd : (kes.map (·.1)).Nodup) (h15 : kes.length ≤ 15) (hall : keys.all (·.isSome) = true := by rfl) (hl : keys.length = values.length := by rfl) (h0 : keys ≠ [] := by exact (fun z => nomatch z))
    (h15' : keys.length ≤ 15 := by decide) : PD X B (.Dict keys values pos) (dDisp kes) := PE.weak (pe_disp h hall hl h0 h15') fun σ H Q h => by
  obtain ⟨Z, S, Γ, fp, ofp, P, r, h, q⟩ := h
  intro p hp
  obtain ⟨q1, q2, q3, q4⟩ := r.fresh hp
  have r0 := r.grow (o := .dK []) hp
  have u0 : Up Z H fp Z (upd H p (.dK [])) fp := r.up0 hp
  refine pairs_run kes r0 h fun ds S2 p2 Z2 H2 fp2 vs r2 l2 d2 hlen => ?_
  have e2 : H2 p = some (.dK []) := l2.keep p _ upd_same q1
  have n1 : p ∉ fp2 := fun m => by
    rcases l2.new p m with z | z
    · exact q1 z
    · rw [upd_same] at z
      cases z
  have n3 : Z2.F p = none := by
    cases e : Z2.F p with
    | none => rfl
    | some o =>
      rcases l2.frz p q3 (by rw [e]; simp) with z | z
      · rw [upd_same] at z
        cases z
      · exact absurd z q1
  have hl2 : vs.length = (kes.map (·.1)).length := by rw [hlen, List.length_map]
  refine ⟨e2, ((kes.map (·.1)).map fun f => (Sum.inr f : Key)).zip vs, ?_, ?_, ?_⟩
  · have gen : ∀ (nm : List Str) (vs : List V), ((nm.map fun f => (Sum.inr f : Key)).zip vs).map (fun kv => (kV kv.1, kv.2)) = (nm.map V.str).zip vs := by
      intro nm
      induction nm with
      | nil => intro vs; rfl
      | cons f nm ih =>
        intro vs
        cases vs with
        | nil => rfl
        | cons v vs =>
          show (V.str f, v) :: ((nm.map fun f => (Sum.inr f : Key)).zip vs).map (fun kv => (kV kv.1, kv.2)) = (V.str f, v) :: (nm.map V.str).zip vs
          rw [ih vs]
    rw [gen, List.map_map]
    rfl
  · rw [List.length_zip, List.length_map, List.length_map]
    omega
  · rw [merge_new _ _ [] nd (fun _ _ _ m => by cases m) hl2, List.nil_append]
    have rb := r2.boxG (o := .dct (kes.map (·.1)) ds) (ho := .dK (((kes.map (·.1)).map fun f => (Sum.inr f : Key)).zip vs)) n1 q2 n3 q4 fun Z' H' le e => .dct e (kvr_zip (d2.mono le) hl2)
    have e3 : V.ref p = V.ref ((Z2.more p).ρ S2.length) := by
      show _ = V.ref (if S2.length = Z2.k then p else _)
      rw [if_pos r2.kk.symm]
    rw [e3]
    refine q _ _ p2 _ _ _ _ rb ?_ (by rw [← e3, e3]; exact .ref (by show S2.length < Z2.k + 1; rw [r2.kk]; exact Nat.lt_succ_self _))
    have ut := u0.trans l2
    refine ⟨ut.le.trans le_more, fun a o e n => ?_, fun a m => ?_, fun a e => ?_, ut.frz⟩
    · rw [upd_ne (ne_of_none e hp)]
      exact ut.keep a o e n
    · rcases List.mem_append.mp m with m | m
      · exact ut.new a m
      · rw [List.mem_singleton.mp m]
        exact .inr hp
    · by_cases z : a = p
      · rw [z]
        exact hp
      · rw [upd_ne z] at e
        exact ut.there a e
end
/-! ### try: body, except x as n: suite; the exception is known behind -/
section
open HandSPX
variable {X : Cx} {pins : List (Addr × Obj)} {σ : L2.St} {H : Hp} {s sI : Shared}
/-- an object that wasn't there is tracked from now on -/
theorem inv_track {a : Addr} {φ : Heap → Prop} (I : Inv X pins σ H s) (JI : Inv X pins σ H sI) (h0 : sI.heap.get? a = none) (na : H a = none) (nL : a ≠ X.env.locals) (hx : ∃ o vs, s.heap.get? a = some o ∧ o.data = .fields vs) (ok : ObjOk X.prog X.w (upd H a (.ext φ)) s.heap a (.ext φ)) (hex : X.ex = []) :
    Inv X pins σ (upd H a (.ext φ)) s := by
  have ne0 : ∀ b o, X.s_0.heap.get? b = some o → b ≠ a := fun b o e z => by
    obtain ⟨o', e'⟩ := JI.base.there b o e (by rw [hex]; simp)
    rw [z, h0] at e'
    cases e'
  have neH : ∀ b u, H b = some u → b ≠ a := fun b u e z => by rw [z, na] at e; cases e
  refine ⟨I.ok, I.os, I.bare, ⟨I.base.keep, I.base.slot, fun b o e n hx => ?_, I.base.there, fun b xs e => ?_, fun b o u e => ?_, fun b ps e => ?_⟩, I.loc, I.cell, ?_, fun x c e => ?_, fun p hp => ?_, fun b u e => ?_, I.len⟩
  · rw [upd_ne (ne0 b o e)]
    exact I.base.free b o e n hx
  · have q := I.base.tups b xs e
    rw [upd_ne (neH b _ q)]
    exact q
  · have q := I.base.frzs b o u e
    rw [upd_ne (neH b _ q)]
    exact q
  · obtain ⟨m, q⟩ := I.base.tbls b ps e
    exact ⟨m, by rw [upd_ne (neH b _ q)]; exact q⟩
  · rw [upd_ne (Ne.symm nL)]
    exact I.free
  · have hc : c ≠ a := fun z => by
      obtain ⟨v, o, e1, e2⟩ := JI.cell x c e
      rw [z, h0] at e1
      cases e1
    rw [upd_ne hc]
    exact I.freeC x c e
  · obtain ⟨e, n, ne, nf, d⟩ := I.pin p hp
    have hp1 : p.1 ≠ a := fun z => by
      obtain ⟨e', _⟩ := JI.pin p hp
      rw [z, h0] at e'
      cases e'
    exact ⟨e, by rw [upd_ne hp1]; exact n, ne, nf, d⟩
  · by_cases hb : b = a
    · subst hb
      rw [upd_same] at e
      cases e
      exact ok
    · rw [upd_ne hb] at e
      exact (I.hok b u e).stay (fun c v _ q => q) (fun c q => by rw [upd_ne (neH c _ q)]; exact q) fun c xs q => by rw [upd_ne (neH c _ q)]; exact q
theorem inv_suiteT {a : Addr} (I : Inv X pins σ H s) : Inv (X.suite a (X.pn ++ pins)) [] σ H s :=
  ⟨I.ok.suite _ _, I.os, I.bare, I.base, I.loc, I.cell, I.free, I.freeC, fun p hp => I.pin p (by rw [List.append_nil] at hp; exact hp), I.hok, I.len⟩
theorem inv_unsuiteT {a : Addr} {pn' : List (Addr × Obj)} (I : Inv (X.suite a (X.pn ++ pins)) pn' σ H s) (ok : X.Ok) : Inv X pins σ H s :=
  ⟨ok, I.os, I.bare, I.base, I.loc, I.cell, I.free, I.freeC, fun p hp => I.pin p (List.mem_append_left _ hp), I.hok, I.len⟩
/-- what the clause wishes: the exception's object is tracked in the suite and behind -/
def wTrk (K : PySem.W.Frag) (c : Value) (i : Nat) (ts : TS) (Wout : WX) (D : Ends) : WX := fun cls d σ H =>
  ∃ b, PySem.W.exmOne K cls c = some b ∧ (b = true → d = none ∧ ∀ a, H a = none → ts { nx := fun σ' H' => D.nx (σ'.set i none) H', rt := D.rt, bk := fun σ' H' => D.bk (σ'.set i none) H', ct := fun σ' H' => D.ct (σ'.set i none) H' } (σ.set i (some (.ref a))) (upd H a (ExH cls a))) ∧
    (b = false → Wout cls d σ H)
variable {x n : Str} {c : Value} {i : Nat} {body suite : List Stmt} {b₀ : Stmt} {np pos pos' : Pos} {tb : WX → TS} {ts : TS} {Wout : WX}
theorem ps_try_asT (hs : X.stack = X.env :: X.outer) (hf : X.env.frame = some X.env.locals) (hex : X.ex = []) (hN : X.N.Nodup) (hi : X.N[i]? = some n) (hln : X.env.kindOf n = some .local) (hc : Names X x c) (tk : Takes X Wout)
    (hb : ∀ (W : WX) (pn : List (Addr × Obj)) (xe : Value → Shared → Prop), Takes (X.tr pn xe) W → PassesOwn (model X.prog X.w) X.A X.env xe → PSs (X.tr pn xe) body (tb W))
    (hsu : ∀ (a : Addr) (pn : List (Addr × Obj)), PSs (X.suite a pn) (b₀ :: suite) ts) :
    PS X (.Try body [.ExceptHandler (some (.Name x np)) (some n) (b₀ :: suite) pos'] [] [] pos) (fun D σ H => tb (wTrk X.K c i ts Wout D) D σ H) := by
  refine ⟨fun pins s σ H D I h => ?_⟩
  have ok := I.ok
  have hfr : X.A.frames = some (X.env :: X.outer) := by rw [ok.frames, hs]
  have hloc : Loc X.env.scope n := .inl hln
  refine wpAny_Try_except ?_
  refine wpAny_mono ((hb (wTrk X.K c i ts Wout D) (X.pn ++ pins) (fun e s₁ => wpAny (model X.prog X.w) X.A (noteFrame e X.env) (fun _ s₂ => wpAny (model X.prog X.w) X.A (setFlight e none) (fun _ s₃ =>
    wpAny (model X.prog X.w) X.A (handleBy e X.env [.ExceptHandler (some (.Name x np)) (some n) (b₀ :: suite) pos']) (SP X pins D) X.xe s₃) X.xe s₂) X.xe s₁) (fun u s' xx => ?_) PassesOwn.looking).run [] s σ H D (I.toTry _) h) (fun f s1 hsp => ?_) (fun e s1 he => he)
  · obtain ⟨a, B, sI, pins', σ', H', cls, d, rfl, J', nb, up, sky, na, os, ag, b, hb1, hyes, hno⟩ := xx
    have J : Inv X pins σ' H' sI := J'.ofTry ok
    have sky' : Sky B (X.env :: X.outer) a (Zc cls d) X.env.locals s'.heap := by rw [← hs]; exact sky
    show wpAny (model X.prog X.w) X.A (noteFrame (.ref a) X.env) _ _ _
    refine Sky.land Zc.steady hfr hf sky' fun h3 fl3 up3 => ?_
    have J3 : Inv X pins σ' H' { s' with heap := h3 } := J.landed nb fl3.1 (up.trans up3) os ag
    obtain ⟨oe3, vs3, he3, hz3, hd3⟩ := fl3.there
    have notFr : ∀ {h : Heap} {o : Obj} {vs : Array Value}, h.FunFrames B (X.env :: X.outer) → h.get? a = some o → o.data = .fields vs → a ∉ frs (X.env :: X.outer) := fun {h o vs} ff e dd hm => by
      obtain ⟨_, o', e', hnf⟩ := ff.mem hm
      rw [e] at e'; cases e'
      exact hnf _ dd
    have nfr := notFr fl3.2.2.1 he3 hd3
    have nL : a ≠ X.env.locals := fun z => nfr (List.mem_filterMap.mpr ⟨X.env, List.mem_cons_self, by rw [hf, z]⟩)
    have nF : a ∉ X.fs := fun hm => by
      obtain ⟨e, he, q⟩ := List.mem_filterMap.mp hm
      exact nfr (List.mem_filterMap.mpr ⟨e, List.mem_cons_of_mem _ he, q⟩)
    have a0 : sI.heap.get? a = none := by
      cases e : sI.heap.get? a with
      | none => rfl
      | some o =>
        have := nb a o e (by rw [hs]; exact nfr)
        rw [fl3.2.1] at this
        cases this
    have S3 := J3.suite he3 hd3 na nL nF
    refine wpAny_handleBy_cons (codeAny_handlers_test ?_) (by intro q; cases q)
    have LT : PySem.W.Looks (model X.prog X.w) h3 (typeOf (.ref a)) cls := fun A Q E s k q => wpAny_typeOf_ref (k _ _ he3) (by rw [hz3.1]; exact q)
    have LM := PySem.W.exm_one (M := model X.prog X.w) (J3.kIn) LT hb1
    have test : ∀ {Q : Value → Shared → Prop} {E : Value → Shared → Prop}, Q c { s' with heap := h3 } → wpAny (model X.prog X.w) (X.A.mark (some (.ref a))) (eval (.Name x np) X.env) Q E { s' with heap := h3 } := fun {Q E} q => by
      obtain ⟨hg, hdbg, hm | ⟨hm, hv, hnn⟩⟩ := hc
      · exact ld_glob (X := X.suite a ((a, oe3) :: (X.pn ++ pins))) S3 hg hm q hdbg
      · exact ld_blt (X := X.suite a ((a, oe3) :: (X.pn ++ pins))) S3 hg hm hv q hnn hdbg
    refine test (LM.here ?_)
    cases b with
    | true =>
      refine codeAny_handlers_suite_as ?_
      refine HandSPX.lands_againZ fl3 fun h4 fl4 up4 => ?_
      have J4 : Inv X pins σ' H' { s' with heap := h4 } := J.landed nb fl4.1 ((up.trans up3).trans up4) os ag
      obtain ⟨oe4, vs4, he4, hz4, hd4⟩ := fl4.there
      obtain ⟨hd0, hyes2⟩ := hyes rfl
      subst hd0
      have J5 := inv_track (φ := fun h => ∃ (oe : Obj) (vs : Array Value), h.get? a = some oe ∧ Zc cls none oe ∧ oe.data = .fields vs) J4 J a0 na nL ⟨_, _, he4, hd4⟩ ⟨⟨_, _, he4, hz4, hd4⟩, ⟨_, he4⟩, fun _ _ ⟨o, v, q, r⟩ k => ⟨o, v, k o q, r⟩⟩ hex
      have S4 := inv_suiteT (a := a) J5
      refine store_ok (X := X.suite a (X.pn ++ pins)) (v := .ref a) S4 hN hi hloc rfl (fun s5 S5 => ?_) (.inr hln)
      refine wpAny_mono ((hsu a (X.pn ++ pins)).run [] s5 _ _ _ S5 (hyes2 a na)) (fun f s6 hsp => ?_) (fun _ _ z => False.elim z)
      have end_ : ∀ {σ6 : L2.St} {H6 : Hp} {Q : Shared → Prop}, Inv (X.suite a (X.pn ++ pins)) [] σ6 H6 s6 → (∀ s7, Inv X pins (σ6.set i none) H6 s7 → Q s7) →
          wpAny (model X.prog X.w) X.A (do bindName X.env n .none; unbindBehindTheSuite X.env n pos') (fun _ s7 => Q s7) X.xe s6 := fun {σ6 H6 Q} S6 hq => gone_ok (inv_unsuiteT S6 ok) hN hi hln hq
      cases f with
      | next =>
        obtain ⟨σ6, H6, S6, q6⟩ := hsp
        exact end_ S6 fun s7 J7 => ⟨_, _, J7, q6⟩
      | brk =>
        obtain ⟨σ6, H6, S6, q6⟩ := hsp
        exact end_ S6 fun s7 J7 => ⟨_, _, J7, q6⟩
      | cont =>
        obtain ⟨σ6, H6, S6, q6⟩ := hsp
        exact end_ S6 fun s7 J7 => ⟨_, _, J7, q6⟩
      | ret u =>
        obtain ⟨v6, σ6, H6, S6, r6, q6⟩ := hsp
        exact end_ S6 fun s7 J7 => ⟨_, _, _, J7, r6, q6⟩
    | false =>
      show wpAny _ X.A (handleBy (.ref a) X.env []) _ _ _
      refine wpAny_handleBy_nil ?_
      obtain ⟨k1, k2, k3, oe, vs, T, oT, ts', he, hz, hd, h1, hr⟩ := id fl3
      unfold PySem.passOn
      refine wpAny_bind (wpAny_field he hd h1 ?_)
      rw [if_neg (show ¬ ((Value.ref T == Value.none) = true) from by simp)]
      have fin : wpAny (model X.prog X.w) X.A (setFlight (.ref a) X.env.frame) (fun _ s4 => wpAny (model X.prog X.w) X.A (throw (.ref a) : Sem Flow) (SP X pins D) X.xe s4) X.xe { s' with heap := h3 } := by
        rw [hf]
        refine HandSPX.setFlight_upZ fl3 fun h4 hh4 up4 => wpAny_throw (tk _ _ ?_)
        exact ⟨a, B, sI, pins, σ', H', cls, d, rfl, J, nb, (up.trans up3).trans up4, .inr (.inr (by rw [hs]; exact hh4)), na, os, ag, hno rfl⟩
      first
        | exact wpAny_bind (wpAny_pure (wpAny_bind fin))
        | exact wpAny_bind fin
  · cases f with
    | next =>
      obtain ⟨σ', H', J', q⟩ := hsp
      exact wpAny_execs_nil ⟨σ', H', J'.ofTry ok, q⟩
    | brk =>
      obtain ⟨σ', H', J', q⟩ := hsp
      exact ⟨σ', H', J'.ofTry ok, q⟩
    | cont =>
      obtain ⟨σ', H', J', q⟩ := hsp
      exact ⟨σ', H', J'.ofTry ok, q⟩
    | ret u =>
      obtain ⟨v, σ', H', J', r, q⟩ := hsp
      exact ⟨v, σ', H', J'.ofTry ok, r, q⟩
/-- the clause on data: slot i holds the exception in the suite, nothing behind -/
def dTry (K : PySem.W.Frag) (c : Value) (i : Nat) (tb : EW → DS) (td : DS) (ew : EW) : DS := fun DD Γ S =>
  tb (fun cls Γ1 S1 => ∃ b, PySem.W.exmOne K cls c = some b ∧
    (b = true → (∃ C, cls = .ref C ∧ ExcC K C) ∧ td { nx := fun Γ2 S2 => DD.nx (Γ2.set i none) S2, rt := DD.rt, bk := fun Γ2 S2 => DD.bk (Γ2.set i none) S2, ct := fun Γ2 S2 => DD.ct (Γ2.set i none) S2 } (Γ1.set i (some (.d (.exc cls)))) S1) ∧
    (b = false → ew cls Γ1 S1)) DD Γ S
theorem ps_dtry {B : Bs} {tb : EW → DS} {td : DS} {ew : EW} (hs : X.stack = X.env :: X.outer) (hf : X.env.frame = some X.env.locals) (hex : X.ex = []) (hN : X.N.Nodup) (dx : DX X B Wout ew) (i : Nat) (hi : X.N[i]? = some n) (hln : X.env.kindOf n = some .local) (hc : Names X x c)
    (hb : ∀ (W : WX) (ew : EW) (pn : List (Addr × Obj)) (xe : Value → Shared → Prop), DX (X.tr pn xe) B W ew → PassesOwn (model X.prog X.w) X.A X.env xe → PSsD (X.tr pn xe) B body (tb ew))
    (hsu : ∀ (a : Addr) (pn : List (Addr × Obj)), PSsD (X.suite a pn) B (b₀ :: suite) td) :
    PSD X B (.Try body [.ExceptHandler (some (.Name x np)) (some n) (b₀ :: suite) pos'] [] [] pos) (dTry X.K c i tb td ew) := by
  refine PS.weak (ps_try_asT (i := i) (ts := liftS X.K B td) (Wout := Wout)
    (tb := fun W D σ H => ∃ ew1, (∀ Z S Γ σ H fp ofp c, R X.K B Z S Γ σ H fp ofp → ew1 c Γ S → W c none σ H) ∧ liftS X.K B (tb ew1) D σ H) hs hf hex hN hi hln hc dx.tk (fun W pn xe tk hp => ⟨fun pins s σ H D I h => ?_⟩) hsu) fun D σ H h => ?_
  · obtain ⟨ew1, ok, h⟩ := h
    exact (hb W ew1 pn xe ⟨tk, ok⟩ hp).run pins s σ H D I h
  · obtain ⟨Z, S, Γ, fp, ofp, DD, r, h, ok⟩ := h
    refine ⟨_, fun Z1 S1 Γ1 σ1 H1 fp1 ofp1 cls r1 h1 => ?_, Z, S, Γ, fp, ofp, DD, r, h, ok⟩
    obtain ⟨b, e, hy, hn⟩ := h1
    refine ⟨b, e, fun hb => ⟨rfl, fun a ha => ?_⟩, fun hb => dx.ok _ _ _ _ _ _ _ _ r1 (hn hb)⟩
    obtain ⟨⟨C, rfl, hC⟩, h2⟩ := hy hb
    have r2 := r1.growF (o := ExH (.ref C) a) ha
    obtain ⟨ofp2, r3, _⟩ := r2.setD i (v := .ref a) (x := .exc (.ref C)) (.exc upd_same hC)
    have del : ∀ {Z S Γ σ H fp ofp}, R X.K B Z S Γ σ H fp ofp → ∃ ofp', R X.K B Z S (Γ.set i none) (σ.set i none) H fp ofp' := fun r => by
      obtain ⟨o, r', _⟩ := r.del i none
      exact ⟨o, r'⟩
    refine ⟨_, _, _, _, _, _, r3, h2, ⟨fun Z S Γ σ H fp ofp r p => ?_, fun Z S Γ σ H fp ofp r p => ?_, fun Z S Γ σ H fp ofp r p => ?_, ok.rt⟩⟩
    · obtain ⟨o, r'⟩ := del r
      exact ok.nx _ _ _ _ _ _ _ r' p
    · obtain ⟨o, r'⟩ := del r
      exact ok.bk _ _ _ _ _ _ _ r' p
    · obtain ⟨o, r'⟩ := del r
      exact ok.ct _ _ _ _ _ _ _ r' p
end
end DL
namespace DL
open PySem PySem.Spec PyProof.Rows L2
abbrev fSub : D → D → (D → Prop) → Prop := i0 fun i j => .int (i - j)
abbrev fDiv : D → D → (D → Prop) → Prop := iOp CDiv fun i j => .int (i / j)
abbrev fMod : D → D → (D → Prop) → Prop := iOp (fun _ j => 0 < j) fun i j => .int (i % j)
abbrev fPow : D → D → (D → Prop) → Prop := iOp CPow fun i j => .int (i ^ j.toNat)
abbrev fShl : D → D → (D → Prop) → Prop := iOp CPow fun i j => .int (i * 2 ^ j.toNat)
abbrev fLt : D → D → (D → Prop) → Prop := i0 fun i j => .bl (decide (i < j))
abbrev fLe : D → D → (D → Prop) → Prop := i0 fun i j => .bl (decide (i ≤ j))
abbrev fGt : D → D → (D → Prop) → Prop := i0 fun i j => .bl (decide (j < i))
abbrev fGe : D → D → (D → Prop) → Prop := i0 fun i j => .bl (decide (j ≤ i))
abbrev fIsB : D → D → (D → Prop) → Prop := bOp fun a b => decide (a = b)
abbrev fNotB : D → D → (D → Prop) → Prop := bOp fun a b => !decide (a = b)
/-! ### built-ins -/
theorem bb_len : bootBuiltins "len" = some (.builtin "len") := by rfl
theorem bb_all : bootBuiltins "all" = some (.builtin "all") := by rfl
theorem bb_any : bootBuiltins "any" = some (.builtin "any") := by rfl
theorem bb_isinstance : bootBuiltins "isinstance" = some (.builtin "isinstance") := by rfl
theorem bb_max : bootBuiltins "max" = some (.builtin "max") := by rfl
theorem bb_min : bootBuiltins "min" = some (.builtin "min") := by rfl
theorem bb_sorted : bootBuiltins "sorted" = some (.builtin "sorted") := by rfl
theorem bb_sum : bootBuiltins "sum" = some (.builtin "sum") := by rfl
theorem bb_int : bootBuiltins "int" = some (.type "int") := by rfl
theorem bb_tuple : bootBuiltins "tuple" = some (.type "tuple") := by rfl
theorem bb_list : bootBuiltins "list" = some (.type "list") := by rfl
theorem bb_str : bootBuiltins "str" = some (.type "str") := by rfl
theorem bb_bool : bootBuiltins "bool" = some (.type "bool") := by rfl
theorem bb_dict : bootBuiltins "dict" = some (.type "dict") := by rfl
theorem bb_ValueError : bootBuiltins "ValueError" = some (.type "ValueError") := by rfl
theorem bb_TypeError : bootBuiltins "TypeError" = some (.type "TypeError") := by rfl
theorem bb_Exception : bootBuiltins "Exception" = some (.type "Exception") := by rfl
/-! ### defs, by what the top has written of them -/
structure Raw (K : PySem.W.Frag) (mg : Str → Option Value) (x : Str) (st : Stmt) (ps : List Str) : Prop where
  ex : ∃ (f : Addr) (fd : FuncData), mg x = some (.ref f) ∧ PySem.W.keepIn K (.ref f) = true ∧ Binds K fd ps [] ∧ Fun K x x st f fd
structure Has (P : Program) (wd : World) (K : PySem.W.Frag) (mg : Str → Option Value) (base : Heap) (k : Nat) (x : Str) (ps : List Str) (g : DSpec) : Prop where
  ex : ∃ (f : Addr) (fd : FuncData), mg x = some (.ref f) ∧ PySem.W.keepIn K (.ref f) = true ∧ Binds K fd ps [] ∧ FnOk P wd K mg base (L2.CX P wd) k f fd ps (spS K g)
section
variable {X : Cx} {B : Bs} {a b c e : Expr} {te : DE} {pos p : Pos} {es : List Expr} {tr : DA} {w : WX} {ew : EW} {x : Str} {ps : List Str} {g : DSpec} {k : Nat}
theorem pd_fn (dx : DX X B w ew) (h : Has X.prog X.w X.K X.mg X.base k x ps g) (hr : Room k X.A) (ha : PAD X B (e :: es) tr)
    (hg : Gl X x := by rfl) (hdb : (x == ("__debug__" : Str)) = false := by decide) (he : starEach (e :: es) X.env = (false, eval e X.env) :: starEach es X.env := by rfl) (hpl : (backTo pos (starEach es X.env)).any (·.1) = false := by rfl) :
    PD X B (.Call (.Name x p) (e :: es) [] pos) (dCallS g ew tr) := by
  obtain ⟨f, fd, h1, h2, h3, h4⟩ := h.ex
  exact pd_call dx h4 hr h1 h2 h3 ha hg hdb he hpl
theorem pf_fn (dx : DX X B w ew) (h : Has X.prog X.w X.K X.mg X.base k x ps g) (hr : Room k X.A) (ha : PAD X B (e :: es) tr)
    (hg : Gl X x := by rfl) (hdb : (x == ("__debug__" : Str)) = false := by decide) (he : starEach (e :: es) X.env = (false, eval e X.env) :: starEach es X.env := by rfl) (hpl : (backTo pos (starEach es X.env)).any (·.1) = false := by rfl) :
    PF X B (.Call (.Name x p) (e :: es) [] pos) (dCallSF g ew tr) := by
  obtain ⟨f, fd, h1, h2, h3, h4⟩ := h.ex
  exact pf_call dx h4 hr h1 h2 h3 ha hg hdb he hpl
theorem pd_fn0 (h : Has X.prog X.w X.K X.mg X.base k x ps g) (hr : Room k X.A)
    (hg : Gl X x := by rfl) (hdb : (x == ("__debug__" : Str)) = false := by decide) : PD X B (.Call (.Name x p) [] [] pos) (dCallS g ew0 dNil) := by
  obtain ⟨f, fd, h1, h2, h3, h4⟩ := h.ex
  exact pd_call0 h4 hr h1 h2 h3 hg hdb
theorem has_ok {P : Program} {wd : World} {K : PySem.W.Frag} {mg : Str → Option Value} {base : Heap} {N : List Str} {j : Nat} {st : Stmt}
    (r : Raw K mg x st ps) (Sc : FnScope N ps (defScope st)) (len : ∀ ds S P EP, g ds S P EP → ds.length = ps.length)
    (body : ∀ (f : Addr) (cdv : Value) (A : Around) (outer : List Env) (s : Shared) (H : Hp) (E : XK) (B : Bs) (P0 : W → Sto → Prop) (EP : Value → Sto → Prop) (ds : List D) (S : Sto), Room j (A.deeper (envOfC x (defScope st) s.heap.objs.size f cdv)) →
      DX (cxOf (L2.CX P wd) P wd K mg base N x (defScope st) f cdv A outer s H E) B (fun cls d _ H => E cls d H) (fun c _ S => EP c S) → g ds S P0 EP →
      ∃ ts, PSsD (cxOf (L2.CX P wd) P wd K mg base N x (defScope st) f cdv A outer s H E) B (defBody st) ts ∧ ts { nx := fun _ S' => P0 (.d .non) S', rt := P0 } (startG N.length ds) S) :
    Has P wd K mg base (j + 1) x ps g := by
  obtain ⟨f, fd, h1, h2, h3, h4⟩ := r.ex
  exact ⟨f, fd, h1, h2, h3, fun_ok h4 Sc len fun cdv A outer s H E B P0 EP ds S => body f cdv A outer s H E B P0 EP ds S⟩
theorem pd_gintE {i : Int} (hm : ∃ t : Tok, X.mg x = some (.int i t)) (hg : Gl X x := by rfl) (hd : (x == ("__debug__" : Str)) = false := by decide) : PD X B (.Name x pos) (dC (.int i)) := by
  obtain ⟨t, hm⟩ := hm
  exact pd_gint hg hm hd
theorem pd_gstrE {y : Str} (hm : ∃ t : Tok, X.mg x = some (.str y t)) (hg : Gl X x := by rfl) (hd : (x == ("__debug__" : Str)) = false := by decide) : PD X B (.Name x pos) (dC (.str y)) := by
  obtain ⟨t, hm⟩ := hm
  exact pd_gstr hg hm hd
/-- -x -/
def dNeg (te : DE) : DE := fun Γ S Q => te Γ S fun x S1 => match x with
  | .int i => Q (.int (-i)) S1
  | _ => False
theorem pd_neg (he : PD X B e te) : PD X B (.UnaryOp .USub e pos) (dNeg te) := PE.weak (pe_un un_neg he) fun σ H Q h => by
  obtain ⟨Z, S, Γ, fp, ofp, P, r, h, q⟩ := h
  refine ⟨Z, S, Γ, fp, ofp, _, r, h, fun x S1 h1 Z1 H1 fp1 vx r1 l1 b1 => ?_⟩
  cases x with
  | int i =>
    cases b1
    exact ⟨i, rfl, q _ S1 h1 Z1 H1 fp1 _ r1 l1 (.int _)⟩
  | _ => exact False.elim h1
/-- {} -/
theorem pd_edict : PD X B (.Dict [] [] pos) (dC .edict) := PE.weak pe_dnewK fun σ H Q h => by
  obtain ⟨Z, S, Γ, fp, ofp, P, r, h, q⟩ := h
  intro p hp
  have u := r.upF (o := .dK []) hp
  exact q _ S h _ _ fp _ (r.growF hp) u (.edict (show upd Z.F p (.dK []) p = _ from upd_same))
/-- a class whose exceptions are raised -/
structure ExcD (K : PySem.W.Frag) (mg : Str → Option Value) (x : Str) (C : Addr) : Prop where
  gC : mg x = some (.ref C)
  kC : PySem.W.keepIn K (.ref C) = true
  r1 : PySem.W.subIn K (.ref C) (.type "BaseException") = some true
  r2 : PySem.W.typeIn K (.ref C) = some (.type "type")
  fx : ∃ (B0 newId initId : String) (bmB : List Value), PySem.ExcBaseFacts B0 newId initId bmB ∧ PySem.W.excIn K C bmB newId = true
theorem ps_draiseD {C : Addr} {m : Str} {j0 : Nat} {p2 pos' : Pos} (hc : X.calm = true) (dx : DX X B w ew) (h : ExcD X.K X.mg x C) (hg : Gl X x := by rfl) (hdb : (x == ("__debug__" : Str)) = false := by decide) :
    PSD X B (.Raise (some (.Call (.Name x p) [.Constant (.str m) j0 p2] [] pos)) none pos') (dRaise ew (.ref C)) := by
  obtain ⟨B0, n1, i1, bm, h1, h2⟩ := h.fx
  exact ps_draise hc dx h1 h2 h.gC h.kC (raises_own h.r1 h.r2) hg hdb
end
end DL
namespace DL
open PySem PySem.Spec PyProof.Rows L2
/-! ### promises of plain functions -/
def fn0 (x : D) : DSpec := fun ds S P _ => match ds with
  | [] => P (.d x) S
  | _ => False
def fn1 (dom : D → Prop) (f : D → D) : DSpec := fun ds S P _ => match ds with
  | [x] => dom x ∧ P (.d (f x)) S
  | _ => False
def fn2 (dom : D → D → Prop) (f : D → D → D) : DSpec := fun ds S P _ => match ds with
  | [x, y] => dom x y ∧ P (.d (f x y)) S
  | _ => False
def fn3 (dom : D → D → D → Prop) (f : D → D → D → D) : DSpec := fun ds S P _ => match ds with
  | [x, y, z] => dom x y z ∧ P (.d (f x y z)) S
  | _ => False
theorem len0 {x : D} : ∀ (ds : List D) (S : Sto) (P : W → Sto → Prop) (EP : Value → Sto → Prop), fn0 x ds S P EP → ds.length = 0
  | [], _, _, _, _ => rfl
  | _ :: _, _, _, _, h => h.elim
theorem len1 {dom : D → Prop} {f : D → D} : ∀ (ds : List D) (S : Sto) (P : W → Sto → Prop) (EP : Value → Sto → Prop), fn1 dom f ds S P EP → ds.length = 1
  | [_], _, _, _, _ => rfl
  | [], _, _, _, h => h.elim
  | _ :: _ :: _, _, _, _, h => h.elim
theorem len2 {dom : D → D → Prop} {f : D → D → D} : ∀ (ds : List D) (S : Sto) (P : W → Sto → Prop) (EP : Value → Sto → Prop), fn2 dom f ds S P EP → ds.length = 2
  | [_, _], _, _, _, _ => rfl
  | [], _, _, _, h => h.elim
  | [_], _, _, _, h => h.elim
  | _ :: _ :: _ :: _, _, _, _, h => h.elim
theorem len3 {dom : D → D → D → Prop} {f : D → D → D → D} : ∀ (ds : List D) (S : Sto) (P : W → Sto → Prop) (EP : Value → Sto → Prop), fn3 dom f ds S P EP → ds.length = 3
  | [_, _, _], _, _, _, _ => rfl
  | [], _, _, _, h => h.elim
  | [_], _, _, _, h => h.elim
  | [_, _], _, _, _, h => h.elim
  | _ :: _ :: _ :: _ :: _, _, _, _, h => h.elim
/-! ### branches -/
theorem br_t {A B : Prop} (h : A) : (true = true → A) ∧ (true = false → B) := ⟨fun _ => h, fun z => Bool.noConfusion z⟩
theorem br_f {A B : Prop} (h : B) : (false = true → A) ∧ (false = false → B) := ⟨fun z => Bool.noConfusion z, fun _ => h⟩
theorem br {A B : Prop} {b : Bool} (h : b = true → A) (h' : b = false → B) : (b = true → A) ∧ (b = false → B) := ⟨h, h'⟩
/-! ### comprehensions -/
theorem compL_map {i : Nat} {te : DE} {Γ : Gm} {S : Sto} {Q : List D → Sto → Prop} (f : D → D) : ∀ (xs : List D) (acc : List D), (∀ x ∈ xs, ∀ Q : D → Sto → Prop, Q (f x) S → te (Γ.set i (some (.d x))) S Q) → sz (acc.length + xs.length) → Q (acc ++ xs.map f) S → compL (dgName i) dYes te xs Γ acc S Q
  | [], acc, _, _, q => by
    rw [List.map_nil, List.append_nil] at q
    exact q
  | x :: r, acc, h, hs, q => by
    rw [List.length_cons] at hs
    refine br_t (h x List.mem_cons_self _ ⟨Nat.le_trans (by omega) hs, ?_⟩)
    refine compL_map f r (acc ++ [f x]) (fun y m => h y (List.mem_cons_of_mem _ m)) ?_ ?_
    · rw [List.length_append]
      show _ ≤ _
      have : acc.length + (r.length + 1) ≤ 100000 := hs
      simp only [List.length_cons, List.length_nil]
      omega
    · rw [List.append_assoc]
      exact q
theorem compL_filter {i : Nat} {tt : DT} {te : DE} {Γ : Gm} {S : Sto} {Q : List D → Sto → Prop} (p : D → Bool) (f : D → D) : ∀ (xs : List D) (acc : List D), (∀ x ∈ xs, ∀ Q : Bool → Sto → Prop, Q (p x) S → tt (Γ.set i (some (.d x))) S Q) →
    (∀ x ∈ xs, p x = true → ∀ Q : D → Sto → Prop, Q (f x) S → te (Γ.set i (some (.d x))) S Q) → sz (acc.length + xs.length) → Q (acc ++ (xs.filter p).map f) S → compL (dgName i) tt te xs Γ acc S Q
  | [], acc, _, _, _, q => by
    rw [List.filter_nil, List.map_nil, List.append_nil] at q
    exact q
  | x :: r, acc, hp, h, hs, q => by
    rw [List.length_cons] at hs
    have hs' : acc.length + (r.length + 1) ≤ 100000 := hs
    refine hp x List.mem_cons_self _ (br (fun hb => ?_) fun hb => ?_)
    · refine h x List.mem_cons_self hb _ ⟨Nat.le_trans (by omega) hs, ?_⟩
      refine compL_filter p f r (acc ++ [f x]) (fun y m => hp y (List.mem_cons_of_mem _ m)) (fun y m => h y (List.mem_cons_of_mem _ m)) ?_ ?_
      · rw [List.length_append]
        show _ ≤ _
        simp only [List.length_cons, List.length_nil]
        omega
      · rw [List.filter_cons_of_pos hb, List.map_cons] at q
        rw [List.append_assoc]
        exact q
    · refine compL_filter p f r acc (fun y m => hp y (List.mem_cons_of_mem _ m)) (fun y m => h y (List.mem_cons_of_mem _ m)) ?_ ?_
      · show _ ≤ _
        omega
      · rw [List.filter_cons_of_neg (by rw [hb]; exact Bool.false_ne_true)] at q
        exact q
/-- each item is drawn: what holds of all, what the state keeps -/
theorem compL_inv {i : Nat} {te : DE} {Γ : Gm} {Q : List D → Sto → Prop} (I : Nat → List D → Sto → Prop) : ∀ (xs : List D) (k : Nat) (acc : List D) (S : Sto), I k acc S →
    (∀ x ∈ xs, ∀ k acc S (Q : D → Sto → Prop), I k acc S → (∀ y S', I (k + 1) (acc ++ [y]) S' → Q y S') → te (Γ.set i (some (.d x))) S Q) → sz (acc.length + xs.length) → (∀ acc' S', acc'.length = acc.length + xs.length → I (k + xs.length) acc' S' → Q acc' S') → compL (dgName i) dYes te xs Γ acc S Q
  | [], k, acc, S, h, _, _, q => q acc S rfl h
  | x :: r, k, acc, S, h, st, hs, q => by
    rw [List.length_cons] at hs
    have hs' : acc.length + (r.length + 1) ≤ 100000 := hs
    refine br_t (st x List.mem_cons_self k acc S _ h fun y S' h' => ⟨Nat.le_trans (by omega) hs, ?_⟩)
    refine compL_inv I r (k + 1) (acc ++ [y]) S' h' (fun z m => st z (List.mem_cons_of_mem _ m)) ?_ fun acc' S2 hl h2 => ?_
    · rw [List.length_append]
      show _ ≤ _
      simp only [List.length_cons, List.length_nil]
      omega
    · refine q acc' S2 ?_ ?_
      · rw [hl, List.length_append, List.length_cons]
        simp only [List.length_cons, List.length_nil]
        omega
      · rw [List.length_cons]
        have e : k + (r.length + 1) = k + 1 + r.length := by omega
        rw [e]
        exact h2
theorem compL_invN {i : Nat} {te : DE} {Γ : Gm} {Q : List D → Sto → Prop} (N : Nat) (I : Nat → List D → Sto → Prop) : ∀ (xs : List D) (k : Nat) (acc : List D) (S : Sto), I k acc S → k + xs.length ≤ N →
    (∀ x ∈ xs, ∀ k acc S (Q : D → Sto → Prop), k < N → I k acc S → (∀ y S', I (k + 1) (acc ++ [y]) S' → Q y S') → te (Γ.set i (some (.d x))) S Q) → sz (acc.length + xs.length) → (∀ acc' S', I (k + xs.length) acc' S' → Q acc' S') → compL (dgName i) dYes te xs Γ acc S Q
  | [], k, acc, S, h, _, _, _, q => q acc S h
  | x :: r, k, acc, S, h, hN, st, hs, q => by
    rw [List.length_cons] at hs hN
    have hs' : acc.length + (r.length + 1) ≤ 100000 := hs
    refine br_t (st x List.mem_cons_self k acc S _ (by omega) h fun y S' h' => ⟨Nat.le_trans (by omega) hs, ?_⟩)
    refine compL_invN N I r (k + 1) (acc ++ [y]) S' h' (by omega) (fun z m => st z (List.mem_cons_of_mem _ m)) ?_ fun acc' S2 h2 => ?_
    · rw [List.length_append]
      show _ ≤ _
      simp only [List.length_cons, List.length_nil]
      omega
    · refine q acc' S2 ?_
      rw [List.length_cons]
      have e : k + (r.length + 1) = k + 1 + r.length := by omega
      rw [e]
      exact h2
/-! ### loops -/
theorem forL_inv {dg : DG} {body : DS} {DD : DEnds} (I : List D → Gm → Sto → Prop) (hend : ∀ Γ S, I [] Γ S → DD.nx Γ S)
    (hstep : ∀ x r Γ S (nx : Gm → Sto → Prop), (∀ Γ S, I r Γ S → nx Γ S) → I (x :: r) Γ S → dg x Γ fun Γ1 => body { DD with nx := nx, ct := nx, bk := DD.nx } Γ1 S) : ∀ (xs : List D) (Γ : Gm) (S : Sto), I xs Γ S → forL dg body xs DD Γ S
  | [], Γ, S, h => hend Γ S h
  | x :: r, Γ, S, h => hstep x r Γ S _ (fun Γ' S' h' => forL_inv I hend hstep r Γ' S' h') h
theorem whileL_inv {t : DT} {body : DS} {DD : DEnds} (I : Nat → Gm → Sto → Prop)
    (hstep : ∀ n Γ S (nx : Gm → Sto → Prop), (∀ m Γ S, m < n → I m Γ S → nx Γ S) → I n Γ S → t Γ S fun b S1 => (b = true → body { DD with nx := nx, ct := nx, bk := DD.nx } Γ S1) ∧ (b = false → DD.nx Γ S1)) : ∀ (n : Nat) (Γ : Gm) (S : Sto), I n Γ S → whileL t body (n + 1) DD Γ S := by
  have key : ∀ (n k : Nat) (Γ : Gm) (S : Sto), n < k → I n Γ S → whileL t body k DD Γ S := by
    intro n
    induction n using Nat.strongRecOn with
    | ind n ih =>
      intro k Γ S hk h
      cases k with
      | zero => exact absurd hk (Nat.not_lt_zero _)
      | succ k => exact hstep n Γ S _ (fun m Γ S hm h' => ih m hm k Γ S (by omega) h') h
  exact fun n Γ S h => key n (n + 1) Γ S (Nat.lt_succ_self _) h
/-! ### data that may be looked at -/
mutual
def okD : D → Bool
  | .non | .bl _ | .int _ | .edict => true
  | .str s => decide (s.length ≤ 50000)
  | .tup ds | .lst ds => okDs ds
  | .ref _ | .exc _ | .val _ => false
def okDs : List D → Bool
  | [] => true
  | d :: ds => okD d && okDs ds
end
theorem okDs_mem : ∀ {ds : List D} {d : D}, okDs ds = true → d ∈ ds → okD d = true
  | _ :: _, _, h, .head _ => (Bool.and_eq_true _ _ ▸ (show (_ && _) = true from h)).1
  | _ :: _, _, h, .tail _ m => okDs_mem (Bool.and_eq_true _ _ ▸ (show (_ && _) = true from h)).2 m
theorem okDs_of : ∀ {ds : List D}, (∀ d ∈ ds, okD d = true) → okDs ds = true
  | [], _ => rfl
  | d :: ds, h => by
    show (okD d && okDs ds) = true
    rw [h d List.mem_cons_self, okDs_of fun x m => h x (List.mem_cons_of_mem _ m)]
    rfl
/-! ### what may be compared -/
theorem ck_str (s : Str) : cmpOk (.str s) := ⟨rfl, by rw [py]; exact Nat.zero_le _⟩
theorem ck_int (s : Int) : cmpOk (.int s) := ⟨rfl, by rw [py]; exact Nat.zero_le _⟩
theorem ck_bl (s : Bool) : cmpOk (.bl s) := ⟨rfl, by rw [py]; exact Nat.zero_le _⟩
theorem ck_non : cmpOk .non := ⟨rfl, by rw [py]; exact Nat.zero_le _⟩
/-- of depth at most n -/
def ckN (n : Nat) (x : D) : Prop := pyOk x = true ∧ (py x).depth ≤ n
theorem ckN.ck {n : Nat} {x : D} (h : ckN n x) (hn : n ≤ 60 := by decide) : cmpOk x := ⟨h.1, Nat.le_trans h.2 hn⟩
theorem ckN.mono {n m : Nat} {x : D} (h : ckN n x) (hn : n ≤ m) : ckN m x := ⟨h.1, Nat.le_trans h.2 hn⟩
theorem cn_str (n : Nat) (s : Str) : ckN n (.str s) := ⟨rfl, by rw [py]; exact Nat.zero_le _⟩
theorem cn_int (n : Nat) (s : Int) : ckN n (.int s) := ⟨rfl, by rw [py]; exact Nat.zero_le _⟩
theorem cn_bl (n : Nat) (s : Bool) : ckN n (.bl s) := ⟨rfl, by rw [py]; exact Nat.zero_le _⟩
theorem cn_non (n : Nat) : ckN n .non := ⟨rfl, by rw [py]; exact Nat.zero_le _⟩
theorem cn_all {n : Nat} : ∀ {ds : List D}, (∀ d ∈ ds, ckN n d) → pyOkAll ds = true ∧ PyData.depthAll (pyAll ds) ≤ n
  | [], _ => ⟨rfl, Nat.zero_le _⟩
  | d :: ds, h => by
    obtain ⟨h1, h2⟩ := cn_all fun x m => h x (List.mem_cons_of_mem _ m)
    obtain ⟨h3, h4⟩ := h d List.mem_cons_self
    refine ⟨by rw [pyOkAll, h1, h3]; rfl, ?_⟩
    rw [pyAll, PyData.depthAll]
    exact Nat.max_le.mpr ⟨h4, h2⟩
theorem cn_tup {n : Nat} {ds : List D} (h : ∀ d ∈ ds, ckN n d) : ckN (n + 1) (.tup ds) := by
  obtain ⟨h1, h2⟩ := cn_all h
  exact ⟨by rw [pyOk]; exact h1, by rw [py, PyData.depth]; exact Nat.succ_le_succ h2⟩
theorem cn_lst {n : Nat} {ds : List D} (h : ∀ d ∈ ds, ckN n d) : ckN (n + 1) (.lst ds) := by
  obtain ⟨h1, h2⟩ := cn_all h
  exact ⟨by rw [pyOk]; exact h1, by rw [py, PyData.depth]; exact Nat.succ_le_succ h2⟩
theorem eqD_refl (x : D) : eqD x x = true := SeqAt.eqv_refl_plain _ (py_plain x)
/-! ### places -/
theorem at_ex {α : Type} {xs : List α} {i : Int} (h0 : 0 ≤ i) (h1 : i < xs.length) : ∃ x, atI xs i = some x ∧ x ∈ xs ∧ xs[i.toNat]? = some x := by
  have hl : i.toNat < xs.length := by omega
  refine ⟨xs[i.toNat], ?_, List.getElem_mem hl, List.getElem?_eq_getElem hl⟩
  have e : ((i.toNat : Nat) : Int) = i := Int.toNat_of_nonneg h0
  have := atI_nat (xs := xs) (j := i.toNat) (List.getElem?_eq_getElem hl)
  rw [e] at this
  exact this
theorem ints_mem : ∀ {n : Nat} {lo : Int} {x : D}, x ∈ intsFrom lo n → ∃ i, x = .int i ∧ lo ≤ i ∧ i < lo + n
  | 0, _, _, m => by cases m
  | n + 1, lo, x, m => by
    rcases List.mem_cons.mp m with rfl | m
    · exact ⟨lo, rfl, Int.le_refl _, by omega⟩
    · obtain ⟨i, e, h1, h2⟩ := ints_mem m
      exact ⟨i, e, by omega, by omega⟩
theorem ints_len : ∀ (n : Nat) (lo : Int), (intsFrom lo n).length = n
  | 0, _ => rfl
  | n + 1, lo => by
    show (intsFrom (lo + 1) n).length + 1 = n + 1
    rw [ints_len]
theorem cutL_len {α : Type} (xs : List α) (lo hi : Option Int) : (cutL xs lo hi).length = min (HT.sIx xs.length xs.length hi - HT.sIx xs.length 0 lo) (xs.length - HT.sIx xs.length 0 lo) := by
  unfold cutL
  rw [List.length_take, List.length_drop]
theorem sIx_pos {n d : Nat} {i : Int} (h : 0 ≤ i) : HT.sIx n d (some i) = min i.toNat n := by
  have e : ((i.toNat : Nat) : Int) = i := Int.toNat_of_nonneg h
  rw [← e]
  exact HT.sIx_nat n d i.toNat
theorem cdiv {i j : Int} (h : 0 < j := by decide) (h' : j < 1073741824 := by decide) : CDiv i j := ⟨h, h'⟩
theorem cmul_r {i j : Int} (h : -(2 ^ 64) < j := by decide) (h' : j < 2 ^ 64 := by decide) : CMul i j := .inr ⟨h, h'⟩
theorem cmul_l {i j : Int} (h : -(2 ^ 64) < i := by decide) (h' : i < 2 ^ 64 := by decide) : CMul i j := .inl ⟨h, h'⟩
theorem joinL_one : ∀ cs : List Nat, TL.joinL [] (cs.map fun c => [c]) = cs
  | [] => rfl
  | [c] => rfl
  | c :: d :: r => by
    show [c] ++ ([] ++ TL.joinL [] ((d :: r).map fun c => [c])) = c :: d :: r
    rw [joinL_one (d :: r)]
    rfl
def sg1 (c : Nat) : D := .str ⟨#[c]⟩
theorem sg_strs (cs : List Nat) : strsOf (cs.map sg1) = some (cs.map fun c => (⟨#[c]⟩ : Str)) := by
  rw [← strsOf_map, List.map_map]
  rfl
theorem sg_join (cs : List Nat) : Txt.join ("" : Str) (cs.map fun c => (⟨#[c]⟩ : Str)) = SX.S cs := by
  have e : (cs.map fun c => (⟨#[c]⟩ : Str)) = (cs.map fun c => [c]).map SX.S := by
    rw [List.map_map]
    rfl
  rw [e, show ("" : Str) = SX.S [] from rfl, SX.join_S, joinL_one]
theorem sg_sum (cs : List Nat) : ((cs.map fun c => (⟨#[c]⟩ : Str)).map (·.length)).sum = cs.length := by
  induction cs with
  | nil => rfl
  | cons c cs ih =>
    rw [List.map_cons, List.map_cons, List.sum_cons, ih, List.length_cons]
    show 1 + cs.length = _
    omega
end DL
namespace DL
open PySem PySem.Spec PyProof.Rows L2
/-! ### the end -/
theorem raw_mk {K : PySem.W.Frag} {h : Heap} {mg : Str → Option Value} {x : Str} {st : Stmt} {ps : List Str} {f : Addr} {oc : Value} {od an : Option Addr} {osl : Array (Option Value)} {kV doc pm cdv ct : Value} (X : K.In h) (G : h.Ns mainGlobals mg)
    (a : PySem.W.nsIn K mainGlobals x = some (some (.ref f))) (l : K.lookup f = some ⟨oc, od, .func (PySem.W.fnOf x x (defArgs st) (defBody st) (defScope st) .none kV doc pm an cdv ct), osl⟩) (c : PySem.W.codeIn K cdv x = true) (k : PySem.W.keepIn K (.ref f) = true)
    (hb : ∀ (kV doc pm : Value) (an : Option Addr) (cdv ct : Value) (us : List Value), us.length = ps.length → bindArgs (PySem.W.fnOf x x (defArgs st) (defBody st) (defScope st) .none kV doc pm an cdv ct) ⟨us, []⟩ = pure (ps.zip us)) : Raw K mg x st ps :=
  ⟨f, _, PySem.W.mg_of X G a, k, (fun_mk l c k).binds hb, fun_mk l c k⟩
theorem law_entry {K : PySem.W.Frag} {g : DSpec} {H : Hp} {a : Addr} {ns : List Int} (hS : SqL K H a (ns.map V.int)) (hg : ∀ (P : W → Sto → Prop) (EP : Value → Sto → Prop), (∀ S', P (.d (.bl true)) S') → g [.lst (ns.map D.int)] [] P EP) :
    spS K g [.ref a] H (fun v _ => v = .bl true) fun _ _ _ => False :=
  ⟨⟨H, fun _ => 0, 0⟩, [], [], [.lst (ns.map D.int)], fun w _ => w = .d (.bl true), fun _ _ => False, ⟨rfl, fun _ _ h => h, .nil, List.nodup_nil, fun _ m => by cases m⟩, .cons (.lst hS (DVs.ints ns)) .nil, hg _ _ fun _ => rfl, fun w S' h Z' H' fp' v _ _ b => by
    subst h
    cases b
    rfl, fun _ _ h => h.elim⟩
theorem law_end {P : Program} {wd : World} {H : Hp} {s : Shared} {e : Value} {s' : Shared} (h : L2.CX P wd [] H s (fun _ _ _ => False) e s') : False := by
  obtain ⟨a, B, H', cls, d, _, _, _, _, _, _, _, h⟩ := h
  exact h
/-! ### classes of one's own, asked of -/
theorem kit_own {K : PySem.W.Frag} {T C : Addr} {b : Bool} (h1 : PySem.W.isClsIn K C = true) (h2 : PySem.W.typeIn K (.ref C) = some (.type "type")) (h3 : PySem.W.subIn K (.ref T) (.ref C) = some b) (h4 : PySem.W.subIn K (.ref T) (.ref T) = some true) : PySem.W.kitOne K (.ref T) (.ref C) = some b := by
  have h1' : (PySem.W.clsIn K C).isSome = true := h1
  have e2 : ((PySem.W.clsIn K C).isSome && PySem.W.typeIn K (.ref C) == some (.type "type")) = true := by
    rw [h1', h2] <;> rfl
  show (if (Value.ref T == Value.ref C) = true then some true else if ((PySem.W.clsIn K C).isSome && PySem.W.typeIn K (.ref C) == some (.type "type")) = true then PySem.W.subIn K (.ref T) (.ref C) else none) = some b
  rw [if_pos e2]
  by_cases z : (Value.ref T == Value.ref C) = true
  · rw [if_pos z]
    have e := beq_iff_eq.mp z
    rw [← e, h4] at h3
    exact h3
  · rw [if_neg z]
    exact h3
theorem kit_VE {K : PySem.W.Frag} {T : Addr} {n : String} {b : Bool} (hn : PySem.W.kitMeta n = true) (h3 : PySem.W.subIn K (.ref T) (.type n) = some b) : PySem.W.kitOne K (.ref T) (.type n) = some b := by
  show (if (Value.ref T == Value.type n) = true then some true else if PySem.W.kitMeta n = true then PySem.W.subIn K (.ref T) (.type n) else none) = some b
  have nz : ¬(Value.ref T == Value.type n) = true := fun z => by
    have e : Value.ref T = Value.type n := beq_iff_eq.mp z
    cases e
  rw [if_pos hn, if_neg nz]
  exact h3
theorem exm_own {K : PySem.W.Frag} {T C : Addr} {b : Bool} (h0 : PySem.W.subIn K (.ref C) (.type "BaseException") = some true) (h1 : PySem.W.isClsIn K C = true) (h2 : PySem.W.typeIn K (.ref C) = some (.type "type")) (h3 : PySem.W.subIn K (.ref T) (.ref C) = some b) : PySem.W.exmOne K (.ref T) (.ref C) = some b := by
  have e1 : (PySem.W.subIn K (.ref C) (.type "BaseException") == some true) = true := by rw [h0] <;> rfl
  have h1' : (PySem.W.clsIn K C).isSome = true := h1
  have e2 : ((PySem.W.clsIn K C).isSome && PySem.W.typeIn K (.ref C) == some (.type "type")) = true := by
    rw [h1', h2] <;> rfl
  show (if (PySem.W.subIn K (.ref C) (.type "BaseException") == some true) = true then (if ((PySem.W.clsIn K C).isSome && PySem.W.typeIn K (.ref C) == some (.type "type")) = true then PySem.W.subIn K (.ref T) (.ref C) else none) else none) = some b
  rw [if_pos e1, if_pos e2]
  exact h3
end DL
namespace DLS
open PySem PySem.W PySem.Calls PyProof.Rows PySem.SeqAt
/-! ### rows of data that are compared up to the first place at which they differ -/
def lexOk : List PyData → List PyData → Bool
  | x :: xs, y :: ys => alike x y && (!PyData.eqv x y || lexOk xs ys)
  | _, _ => true
theorem lexOk_cons {x y : PyData} {xs ys : List PyData} (h : lexOk (x :: xs) (y :: ys) = true) : alike x y = true ∧ (PyData.eqv x y = true → lexOk xs ys = true) := by
  rw [lexOk, Bool.and_eq_true] at h
  refine ⟨h.1, fun e => ?_⟩
  have h2 := h.2
  rw [e] at h2
  exact h2
section
variable {prog : Program} {w : World} {A : Around} {E : Value → Shared → Prop} {s : Shared}
theorem lex_walk {b fin : Bool} {Q : Bool → Shared → Prop} : ∀ (xs ys : List PyData) (i : Nat) (vs ws : List Value) (as bs : List Addr), ReadsAll s.heap vs xs as → ReadsAll s.heap ws ys bs → lexOk xs ys = true →
    A.units + min (PyData.depthAll xs) (PyData.depthAll ys) < cLine → (b = true → i = 0 → ∀ x r t, xs = x :: r → x ≠ .tuple t) → fin = decide (xs.length < ys.length) → Q (PyProof.Rows.lexLt itemOrd (keyToksAll xs) (keyToksAll ys)) s → KatLex prog w A b fin Q (vs.zip ws) i s := by
  intro xs
  induction xs with
  | nil =>
    intro ys i vs ws as bs ra rb _ hu hb hf hq
    exact katLex_alike [] ys i vs ws as bs ra rb (by cases ys <;> rfl) hu hb hf hq
  | cons x xs ih =>
    intro ys i vs ws as bs ra rb hl hu hb hf hq
    cases ys with
    | nil => exact katLex_alike (x :: xs) [] i vs ws as bs ra rb rfl hu hb hf hq
    | cons y ys =>
      obtain ⟨h1, h2⟩ := lexOk_cons hl
      cases ra with
      | cons r rs =>
        cases rb with
        | cons r' rs' =>
          rw [List.zip_cons_cons]
          have hx := eqAt_alike x y A s _ _ _ _ r r' h1 (room_head hu) prog w
          refine kat_cons (hx _ _ ?_)
          cases he : PyData.eqv x y with
          | true =>
            rw [dataLt_all_yes h1 he] at hq
            refine kat_yes (ih ys (i + 1) _ _ _ _ rs rs' (h2 he) (room_tail hu) (fun _ hi => absurd hi (Nat.succ_ne_zero i)) ?_ hq)
            rw [hf, List.length_cons, List.length_cons]
            by_cases z : xs.length < ys.length
            · rw [decide_eq_true z]
              exact decide_eq_true (by omega)
            · rw [decide_eq_false z]
              exact decide_eq_false (by omega)
          | false =>
            rw [dataLt_all_no h1 he] at hq
            refine kat_no (oneLt_alike (fun hbi t => ?_) r r' h1 (ne_none_of h1 he) (room_head hu) hq)
            rw [Bool.and_eq_true] at hbi
            exact hb hbi.1 (by have := hbi.2; simpa using this) x xs t rfl
end
/-! ### one datum a value -/
mutual
theorem one_datum {h : Heap} : ∀ (d d' : PyData) (v : Value) (as as' : List Addr), alike d d = true → Reads h v d as → Reads h v d' as' → d = d'
  | .none, _, _, _, _, _, r, r' => by cases r; cases r'; rfl
  | .bool _, _, _, _, _, _, r, r' => by cases r; cases r'; rfl
  | .int _, _, _, _, _, _, r, r' => by cases r; cases r'; rfl
  | .str _, _, _, _, _, _, r, r' => by cases r; cases r'; rfl
  | .list xs, _, _, _, _, k, r, r' => by
    cases r with
    | list g1 g2 g3 g4 =>
      cases r' with
      | list k1 k2 k3 k4 =>
        rw [g1] at k1
        cases k1
        rw [g3] at k3
        cases k3
        rw [all_data _ _ _ _ _ (by simpa [alike] using k) g4 k4]
      | tuple k1 k2 k3 k4 =>
        rw [g1] at k1
        cases k1
        rw [g2] at k2
        exact absurd k2 (by simp)
      | dict k1 k2 k3 k4 k5 =>
        rw [g1] at k1
        cases k1
        rw [g2] at k2
        exact absurd k2 (by simp)
  | .tuple xs, _, _, _, _, k, r, r' => by
    cases r with
    | tuple g1 g2 g3 g4 =>
      cases r' with
      | tuple k1 k2 k3 k4 =>
        rw [g1] at k1
        cases k1
        rw [g3] at k3
        cases k3
        rw [all_data _ _ _ _ _ (by simpa [alike] using k) g4 k4]
      | list k1 k2 k3 k4 =>
        rw [g1] at k1
        cases k1
        rw [g2] at k2
        exact absurd k2 (by simp)
      | dict k1 k2 k3 k4 k5 =>
        rw [g1] at k1
        cases k1
        rw [g2] at k2
        exact absurd k2 (by simp)
  | .dict _, _, _, _, _, k, _, _ => absurd k (by simp [alike])
theorem all_data {h : Heap} : ∀ (ds ds' : List PyData) (vs : List Value) (as as' : List Addr), alikeAll ds ds = true → ReadsAll h vs ds as → ReadsAll h vs ds' as' → ds = ds'
  | [], _, _, _, _, _, r, r' => by cases r; cases r'; rfl
  | d :: ds, _, _, _, _, k, r, r' => by
    cases r with
    | cons g1 g2 =>
      cases r' with
      | cons k1 k2 => rw [one_datum d _ _ _ _ (alike_all_cons k).1 g1 k1, all_data ds _ _ _ _ (alike_all_cons k).2 g2 k2]
end
/-! ### what can be sorted -/
def Selves (ds : List PyData) : Prop := ∀ d ∈ ds, alike d d = true
theorem kd_some {h : Heap} {ds : List PyData} (hs : Selves ds) {v : Value} {d : PyData} {as : List Addr} (hd : d ∈ ds) (r : Reads h v d as) : (dataKind h ds).keyOf v = some (keyToks d) := by
  have q : ∃ d, d ∈ ds ∧ ∃ as, Reads h v d as := ⟨d, hd, as, r⟩
  obtain ⟨h1, as', h2⟩ := q.choose_spec
  have e2 : q.choose = d := one_datum _ _ _ _ _ (hs _ h1) h2 r
  show (open Classical in if q : ∃ d, d ∈ ds ∧ ∃ as, Reads h v d as then some (keyToks q.choose) else none) = _
  rw [dif_pos q, e2]
/-- keys that sorting can compare: all rows with an item, compared up to the first difference; or alike rows; or alike others -/
def Keys (ds : List PyData) : Prop :=
  ((∀ d ∈ ds, ∃ x r, d = .tuple (x :: r)) ∧ ∀ d ∈ ds, ∀ d' ∈ ds, ∀ xs ys, d = .tuple xs → d' = .tuple ys → lexOk xs ys = true) ∨
  (AllAlike ds ∧ ((∀ d ∈ ds, ∃ xs, d = .tuple xs) ∨ ∀ d ∈ ds, d ≠ .none ∧ ∀ xs, d ≠ .tuple xs))
section
variable {prog : Program} {w : World} {A : Around} {E : Value → Shared → Prop} {s : Shared}
theorem firsts_of : ∀ (vs : List Value) (ds : List PyData) {Q : List (Option Value) → Shared → Prop}, EachIs (fun v d => ∃ as, Reads s.heap v d as) vs ds → (∀ d ∈ ds, ∃ xs, d = .tuple xs) →
    (∀ os : List (Option Value), EachIs (fun (o : Option Value) d => o.isSome = true ↔ ∃ x r, d = PyData.tuple (x :: r)) os ds → Q os s) → wpAny (model prog w) A (vs.mapM firstOfTuple') Q E s
  | _, _, Q, .nil, _, h => by
    rw [List.mapM_nil]
    exact wpAny_pure (h [] .nil)
  | _, _, Q, .cons (a := v) (as := vs) (b := d) (bs := ds) ⟨as, r⟩ t, ht, h => by
    obtain ⟨xs, rfl⟩ := ht d (List.mem_cons_self ..)
    rw [List.mapM_cons]
    refine wpAny_bind ?_
    rw [kas_first_eq]
    cases r with
    | @tuple a o us n _ _ ho hc hd hr =>
      refine wpAny_bind (Looks.here (show Looks (model prog w) s.heap (typeOf (.ref a)) o.cls from (Looks.ld ho).andThen .now) ?_)
      rw [hc, if_neg (by first | decide | simp)]
      refine wpAny_bind (listItems_at ho hd (wpAny_pure ?_))
      refine wpAny_bind (firsts_of _ _ (Q := fun bs s' => wpAny (model prog w) A (pure (us[0]? :: bs)) Q E s') t (fun d m => ht d (List.mem_cons_of_mem _ m)) fun os he => wpAny_pure (h _ (.cons ?_ he)))
      have hl := SeqAt.ReadsAll.length _ _ _ hr
      cases xs with
      | nil =>
        have : us[0]? = none := Array.getElem?_eq_none (by rw [← Array.length_toList, hl]; exact Nat.le_refl _)
        rw [this]
        exact ⟨fun z => (Bool.noConfusion z), fun ⟨x, r, z⟩ => by cases z⟩
      | cons x r =>
        have : 0 < us.size := by rw [← Array.length_toList, hl]; exact Nat.succ_pos _
        rw [Array.getElem?_eq_getElem this]
        exact ⟨fun _ => ⟨x, r, rfl⟩, fun _ => rfl⟩
theorem rc_tuples {f : Bool} {xs ys : List PyData} {a b : Value} {as bs : List Addr} {Q : Bool → Shared → Prop} (ra : Reads s.heap a (.tuple xs) as) (rb : Reads s.heap b (.tuple ys) bs) (h : alike (.tuple xs) (.tuple ys) = true)
    (hu : A.units + min (PyData.tuple xs).depth (PyData.tuple ys).depth < cLine) (hq : Q (dataLt (.tuple xs) (.tuple ys)) s) : wpAny (model prog w) A (oneLt' f a b) Q E s := by
  cases f with
  | false =>
    rw [oneLt'_eq]
    simp only [Bool.false_eq_true, if_false]
    exact wpAny_bind (rcLt_alike _ _ A s a b as bs ra rb h (fun z => nomatch z) hu prog w E _ (wpAny_truthy_bool hq))
  | true =>
    have hal : alikeAll xs ys = true := by simpa [alike] using h
    cases ra with
    | @tuple l o vs n _ as1 h1 h2 h3 h4 =>
      cases rb with
      | @tuple l' o' vs' n' _ bs1 k1 k2 k3 k4 =>
        have n1 : vs.size = xs.length := by have := SeqAt.ReadsAll.length _ _ _ h4; simpa using this
        have n2 : vs'.size = ys.length := by have := SeqAt.ReadsAll.length _ _ _ k4; simpa using this
        have hu' : A.units + min (PyData.depthAll xs + 1) (PyData.depthAll ys + 1) < cLine := by simpa [PyData.depth] using hu
        rw [dataLt_tuple, ← firstLt_toks xs ys hal, ← n1, ← n2] at hq
        rw [oneLt'_eq]
        simp only [if_true]
        obtain ⟨c1, d1, t1, sl1⟩ := o
        obtain ⟨c2, d2, t2, sl2⟩ := o'
        simp only at h2 h3 k2 k3
        subst h2 h3 k2 k3
        refine wpAny_bind (wpAny_cRoomFor (room_here hu') ?_)
        refine wpAny_bind (wpAny_callSpecialIfBound?_slot (T := "tuple") ⟨_, h1, rfl⟩ F.slot_tuple_lt (call_meets F.slot_tuple_lt ⟨_, h1, rfl⟩ F.entry_tuple_lt (F.args_tuple_lt_2 _ _)
          (tuple_ltAt l l' vs vs' n n' d1 d2 sl1 sl2 (pairEq xs ys) fun j => dataLt (xs.getD j .none) (ys.getD j .none)) ⟨h1, k1, fun j j1 j2 => ?_, fun j j1 j2 hj => ?_, ?_⟩))
        · have := eqAt_alikeAll xs ys A.in1 s vs.toList vs'.toList _ _ h4 k4 hal (room_in hu') j (by simpa using j1) (by simpa using j2)
          simpa using this
        · have := rcLt_alikeAll xs ys A.in1 s vs.toList vs'.toList _ _ h4 k4 hal (room_in hu') j (by simpa using j1) (by simpa using j2) hj
          simpa using this
        · exact wpAny_truthy_bool hq
end
end DLS
namespace DLS
open PySem PySem.W PySem.Calls PyProof.Rows PySem.SeqAt
def neT : PyData → Bool
  | .tuple (_ :: _) => true
  | _ => false
theorem neT_iff {d : PyData} : neT d = true ↔ ∃ x r, d = .tuple (x :: r) := by
  constructor
  · intro h
    unfold neT at h
    split at h
    · exact ⟨_, _, rfl⟩
    · cases h
  · rintro ⟨x, r, rfl⟩
    rfl
section
variable {prog : Program} {w : World} {A : Around} {s : Shared}
theorem kind_mixed {vs : List Value} {ds : List PyData} {d0 : PyData} {dr : List PyData} (e : EachIs (fun v d => ∃ as, Reads s.heap v d as) vs ds) (ht : ∀ d ∈ ds, ∃ xs, d = .tuple xs) (h0 : ds = d0 :: dr) (hn : ¬ ∀ d ∈ ds, ∃ x r, d = .tuple (x :: r))
    {kd : SortKind} (hk : kd = if neT d0 = true then general' else oneType') {E : Value → Shared → Prop} {Q : SortKind → Shared → Prop} (hq : Q kd s) : wpAny (model prog w) A (keyKind' vs.toArray) Q E s := by
  rw [kat_kind_eq, List.mapM_toArray, map_eq_pure_bind]
  refine wpAny_bind (wpAny_bind (firsts_of vs ds e ht fun os he => wpAny_pure ?_))
  have hlen : os.length = ds.length := he.length
  have hall : (os.toArray.all fun x => x.isSome) = false := by
    cases hz : (os.toArray.all fun x => x.isSome) with
    | false => rfl
    | true =>
      refine absurd (fun d hd => ?_) hn
      rw [List.all_toArray, List.all_eq_true] at hz
      obtain ⟨i, hi, ed⟩ := List.mem_iff_getElem.mp hd
      have hi' : i < os.length := by omega
      have hp : (os[i], ds[i]) ∈ os.zip ds := by
        rw [List.mem_iff_getElem]
        exact ⟨i, by rw [List.length_zip]; omega, by rw [List.getElem_zip]⟩
      have q := he.zip _ hp
      rw [← ed]
      exact q.mp (hz _ (List.getElem_mem hi'))
  rw [hall]
  simp only [Bool.false_eq_true, if_false]
  subst h0
  cases he with
  | @cons o d1 os' dr' ho ht' =>
    have h0 : ((o :: os').toArray[0]?.bind id) = o := by simp
    rw [h0]
    by_cases hx : neT d0 = true
    · rw [if_pos hx] at hk
      rw [if_pos (ho.mpr (neT_iff.mp hx))]
      subst hk
      exact wpAny_pure hq
    · rw [if_neg hx] at hk
      rw [if_neg (fun z => hx (neT_iff.mpr (ho.mp z)))]
      subst hk
      rw [oneTypeOnly'_eq, List.mapM_toArray, map_eq_pure_bind]
      refine wpAny_bind (wpAny_bind (wpAny_bind (kas_mapM (r := Value.type "tuple") _ (fun v hv Q' hq => ?_) (wpAny_pure ?_))))
      · obtain ⟨d, hd, as, r⟩ := e.left v hv
        obtain ⟨xs, rfl⟩ := ht d hd
        exact (looks_reads r : Looks (model prog w) s.heap (typeOf v) (Value.type "tuple")).here hq
      · have hne : vs ≠ [] := by
          intro z
          rw [z] at e
          cases e
        obtain ⟨v1, vr, rfl⟩ : ∃ v1 vr, vs = v1 :: vr := by
          cases vs with
          | nil => exact absurd rfl hne
          | cons v1 vr => exact ⟨v1, vr, rfl⟩
        have h0 : (List.map (fun _ => Value.type "tuple") (v1 :: vr)).toArray[0]? = some (Value.type "tuple") := by simp
        rw [h0]
        have hall2 : ((List.map (fun _ => Value.type "tuple") (v1 :: vr)).toArray.all fun x => x == Value.type "tuple") = true := by
          simp only [List.all_toArray, List.all_map, List.all_eq_true]
          intro _ _
          rfl
        simp only [hall2, if_true]
        exact wpAny_pure (wpAny_pure hq)
theorem sorts_of {vs : List Value} {ds : List PyData} (e : EachIs (fun v d => ∃ as, Reads s.heap v d as) vs ds) (hs : Selves ds) (hk : Keys ds) (hu : ∀ d ∈ ds, A.units + d.depth < cLine) : SortsAt prog w A s (dataKind s.heap ds) vs := by
  have room : ∀ {d d' : PyData}, d ∈ ds → A.units + min d.depth d'.depth < cLine := fun {d d'} hd => Nat.lt_of_le_of_lt (Nat.add_le_add_left (Nat.min_le_left _ _) _) (hu d hd)
  have keys : ∀ v, v ∈ vs → ∃ a, (dataKind s.heap ds).keyOf v = some a := fun v hv => by
    obtain ⟨d, hd, as, r⟩ := e.left v hv
    exact ⟨_, kd_some hs hd r⟩
  rcases hk with ⟨ht, hl⟩ | ⟨hal, ht | hn⟩
  · refine ⟨keys, ?_⟩
    cases ds with
    | nil =>
      cases e
      exact ⟨general', fun E x y a b Q ha _ _ => by
        obtain ⟨d, _, hd, _⟩ := dataKind_inv ha
        exact absurd hd (by simp), fun h2 => absurd h2 (by simp)⟩
    | cons d₀ ds₀ =>
      obtain ⟨x₀, r₀, e₀⟩ := ht d₀ (List.mem_cons_self ..)
      have hfirst : ∀ x r, PyData.tuple (x :: r) ∈ d₀ :: ds₀ → alike x x₀ = true := fun x r hm =>
        (lexOk_cons (hl _ hm d₀ (List.mem_cons_self ..) _ _ rfl e₀)).1
      refine ⟨tuples' (dataType x₀ != Value.type "tuple"), ?_, fun h2 E Q hq => ?_⟩
      · intro E x y a b Q ha hb hq
        obtain ⟨d, as, hd, ra, rfl⟩ := dataKind_inv ha
        obtain ⟨d', as', hd', rb, rfl⟩ := dataKind_inv hb
        obtain ⟨x1, r1, rfl⟩ := ht d hd
        obtain ⟨x2, r2, rfl⟩ := ht d' hd'
        have hroom := room (d' := .tuple (x2 :: r2)) hd
        have hdd := hl _ hd _ hd' _ _ rfl rfl
        have hq' : Q (dataLt (.tuple (x1 :: r1)) (.tuple (x2 :: r2))) s := hq
        rw [dataLt_tuple] at hq'
        cases ra with
        | @tuple l o xs n _ _ h1 h2 h3 h4 =>
          cases rb with
          | @tuple l' o' xs' n' _ _ k1 k2 k3 k4 =>
            have n1 : xs.size = (x1 :: r1).length := by have := SeqAt.ReadsAll.length _ _ _ h4; simpa using this
            have n2 : xs'.size = (x2 :: r2).length := by have := SeqAt.ReadsAll.length _ _ _ k4; simpa using this
            refine kat_lt h1 h3 k1 k3 (lex_walk (x1 :: r1) (x2 :: r2) 0 _ _ _ _ h4 k4 hdd (by have q := SeqAt.room_in hroom; omega) (fun hb _ x r t ex => ?_) (by rw [n1, n2]) hq')
            obtain ⟨rfl, rfl⟩ := List.cons.inj ex
            have q := dataType_alike (hfirst _ _ hd)
            rw [← q] at hb
            exact dataType_tuple hb t
      · obtain ⟨fs, t1, t2, t3⟩ := each_katTups e ht
        refine kat_kind (T := dataType x₀) t1 (by omega) (fun f hf => ?_) (beq_self_eq_true _) hq
        obtain ⟨x, r, as, m1, m2⟩ := t3 f hf
        rw [← dataType_alike (hfirst x r m1)]
        exact looks_reads m2
  · by_cases hne : ∀ d ∈ ds, ∃ x r, d = .tuple (x :: r)
    · exact SortsAt.data e hal (.inl hne) hu
    · refine ⟨keys, ?_⟩
      cases ds with
      | nil => exact absurd (fun d hd => absurd hd (by simp)) hne
      | cons d0 dr =>
        refine ⟨if neT d0 = true then general' else oneType', ?_, fun h2 E Q hq => kind_mixed e ht rfl hne rfl hq⟩
        intro E x y a b Q ha hb hq
        obtain ⟨d, as, hd, ra, rfl⟩ := dataKind_inv ha
        obtain ⟨d', as', hd', rb, rfl⟩ := dataKind_inv hb
        obtain ⟨xs, rfl⟩ := ht d hd
        obtain ⟨ys, rfl⟩ := ht d' hd'
        have hdd := hal _ hd _ hd'
        split
        · exact rc_tuples (f := false) ra rb hdd (room hd) hq
        · rw [keyLt'_oneType]
          exact rc_tuples (f := true) ra rb hdd (room hd) hq
  · exact SortsAt.data e hal (.inr hn) hu
end
end DLS
namespace DL
open PySem PySem.Spec PyProof.Rows L2
theorem paired_each {α β : Type} {F : α → β → Prop} : ∀ {xs : List α} {ys : List β}, Paired F xs ys → PySem.W.EachIs (fun y x => F x y) ys xs
  | _, _, .nil => .nil
  | _, _, .cons h t => .cons h (paired_each t)
theorem each_paired {α β : Type} {F : α → β → Prop} : ∀ {xs : List α} {ys : List β}, PySem.W.EachIs (fun y x => F x y) ys xs → Paired F xs ys
  | _, _, .nil => .nil
  | _, _, .cons h t => .cons h (each_paired t)
section
variable {X : Cx} {pins : List (Addr × Obj)} {σ : L2.St} {k : Nat} {f : Addr} {fd : FuncData} {ps : List Str} {sp : Sp}
theorem room_in2 {A : Around} (hr : Room (k + 1) A) : Room k A.in1.in1 := ⟨hr.hd, by have := hr.dp; show A.depth + 3 * k + 5 < _; omega, by have := hr.un; show A.units + 1 + 1 + 16 * k + 200 < _; omega⟩
/-- a key is asked for -/
theorem key_call (F : FnOk X.prog X.w X.K X.mg X.base (L2.CX X.prog X.w) k f fd ps sp) (hr : Room k X.A.in1.in1) (hb : Binds X.K fd ps []) {H : Hp} {s : Shared} (I : Inv X pins σ H s) {x : V} {u : Value} (ru : RelV x u) {Q : VK} (h : sp [x] H Q fun _ _ _ => False) {E : Value → Shared → Prop} :
    wpAny (model X.prog X.w) X.A.in1.in1 (call (.ref f) [u]) (EP X pins σ Q) E s := by
  have rv : Vals [x] [u] := .cons ru .nil
  have hl : ([u] ++ []).length = ps.length := F.len _ _ _ _ h
  have bt := hb s [u] I.kIn hl
  refine wpAny_call (codeAny_mono (F.run X.A.in1.in1 X.stack s H ⟨[u], []⟩ [u] [x] Q _ hr I.env0.in1.in1 bt rv h) fun r s' hq => ?_)
  cases r with
  | error e => exact False.elim (law_end_any hq)
  | ok fl =>
    cases fl with
    | ret u => exact I.after hq
    | next => exact False.elim hq
    | brk => exact False.elim hq
    | cont => exact False.elim hq
where
  law_end_any {P : Program} {wd : World} {outer : List Env} {H : Hp} {s : Shared} {e : Value} {s' : Shared} (h : L2.CX P wd outer H s (fun _ _ _ => False) e s') : False := by
    obtain ⟨a, B, H', cls, d, _, _, _, _, _, _, _, h⟩ := h
    exact h
/-- the keys, one by one -/
theorem keys_loop (F : FnOk X.prog X.w X.K X.mg X.base (L2.CX X.prog X.w) k f fd ps sp) (hr : Room k X.A.in1.in1) (hb : Binds X.K fd ps []) {s : Shared} {H : Hp} {D kS : Addr} {e1 : Nat} {b : Bool} {its : List Value} {xs : List V} (hxs : Vals xs its)
    (hz : its.length ≤ sizeLine) (nk : H kS = none) (I : Inv X ((kS, seqObj "list" #[] 0) :: (D, seqObj "list" #[] e1) :: pins) σ H s) (ne : kS ≠ D) (h1 : X.s_0.heap.objs.size ≤ kS) (h2 : ∀ x c, X.env.cells.lookup x = some c → c ≠ kS) (h3 : ∀ p ∈ X.pn ++ pins, p.1 ≠ kS)
    (P : Nat → Hp → List V → Prop) (p0 : P 0 H []) (step : ∀ i x H' ks, xs[i]? = some x → P i H' ks → sp [x] H' (fun v H'' => P (i + 1) H'' (ks ++ [v])) fun _ _ _ => False)
    {R : PySem.Fin → Shared → Prop} {E : Value → Shared → Prop} (fin : ∀ s' H' ks kA e, Inv X ((kS, seqObj "list" kA e) :: (D, seqObj "list" #[] e1) :: pins) σ H' s' → Vals ks kA.toList → ks.length = xs.length → P xs.length H' ks → wpAny (model X.prog X.w) X.A.in1.in1 (PyProof.Rows.ksk_end D b its.toArray e1 (.ref kS) kA) R E s') :
    wpAny (model X.prog X.w) X.A.in1.in1 (PyProof.Rows.ksk_rest D (.ref f) b its.toArray e1 (.ref kS)) R E s := by
  have hlen := hxs.length
  unfold PyProof.Rows.ksk_rest
  refine wpAny_bind (wpAny_rule ?_)
  rw [List.forIn_toArray]
  refine wpAny_bind (PyProof.Rows.ksk_fold (fun i s' => ∃ H' ks kA e, Inv X ((kS, seqObj "list" kA e) :: (D, seqObj "list" #[] e1) :: pins) σ H' s' ∧ Vals ks kA.toList ∧ ks.length = i ∧ P i H' ks) its 0 s ⟨H, [], #[], 0, I, .nil, rfl, p0⟩ ?turn ?done)
  case turn =>
    rintro j u s' hu ⟨H', ks, kA, e, J, rv, hk, hp⟩
    simp only [Nat.zero_add] at hk hp ⊢
    have hj : j < its.length := (List.getElem?_eq_some_iff.mp hu).1
    obtain ⟨x, hx⟩ : ∃ x, xs[j]? = some x := ⟨_, List.getElem?_eq_getElem (by omega)⟩
    obtain ⟨u', hu', ru⟩ := hxs.get hx
    rw [hu] at hu'
    cases hu'
    refine wpAny_bind (wpAny_attempt (wpAny_mono (key_call F hr hb J ru (step j x H' ks hx hp) (E := fun _ _ => False)) (fun v s'' he => ?_) fun _ _ hF => hF.elim))
    obtain ⟨y, H2, J2, ry, hp2⟩ := he
    try dsimp only
    have kp := J2.pin (kS, seqObj "list" kA e) (List.mem_append_right _ (List.mem_cons_self ..))
    have dp := J2.pin (D, seqObj "list" #[] e1) (List.mem_append_right _ (List.mem_cons_of_mem _ (List.mem_cons_self ..)))
    obtain ⟨k1, k2, k3, k4, k5⟩ := kp
    obtain ⟨d1, d2, d3, d4, d5⟩ := dp
    have hsz : kA.size ≤ sizeLine := by
      have q := rv.length
      have q2 : kA.toList.length = kA.size := Array.length_toList
      omega
    have sb := Heap.SameBut.update s''.heap kS (Obj.mapSeq (·.push v))
    obtain ⟨c2, hc2⟩ : ∃ c2, (s''.heap.update kS (Obj.mapSeq (·.push v))).get? kS = some (seqObj "list" (kA.push v) c2) := ⟨_, get?_update_seq k1 (·.push v)⟩
    refine wpAny_bind (listUpdate_at k1 rfl ?_ hsz (Nat.le_trans (Nat.le_of_eq (Array.size_push ..)) (Nat.succ_le_succ hsz)))
    refine wpAny_pure ⟨rfl, H2, ks ++ [y], kA.push v, c2, ?_, ?_, ?_, hp2⟩
    · have J3 : Inv X pins σ H2 s'' := J2.pins_of fun p m => J2.pin p (List.mem_append_right _ (List.mem_cons_of_mem _ (List.mem_cons_of_mem _ m)))
      have J4 := J3.turned (h' := s''.heap.update kS (Obj.mapSeq (·.push v))) (t' := s''.toks) (it := kS) (fun c o hc eo => (sb.2 c hc).trans eo) k2 k3 (.inr h1) h2 h3
      refine J4.pins_of fun p m => ?_
      rcases List.mem_cons.mp m with rfl | m
      · exact ⟨hc2, k2, k3, k4, fun v z => by cases z⟩
      · rcases List.mem_cons.mp m with rfl | m
        · exact ⟨(sb.2 D ne.symm).trans d1, d2, d3, d4, d5⟩
        · exact J4.pin p (List.mem_append_right _ m)
    · rw [Array.toList_push]
      exact rv.append (.cons ry .nil)
    · rw [List.length_append, hk]
      rfl
  case done =>
    rintro s' ⟨H', ks, kA, e, J, rv, hk, hp⟩
    rw [Nat.zero_add, ← hlen] at hp hk
    try dsimp only
    have kp := J.pin (kS, seqObj "list" kA e) (List.mem_append_right _ (List.mem_cons_self ..))
    refine wpAny_bind (listItems_at kp.1 rfl ?_)
    exact fin s' H' ks kA e J rv hk hp
/-- sorted(xs, key=f): P follows the keys' making; in the end they read as kds -/
def rSortKey (K : PySem.W.Frag) (f : Addr) (sp : Sp) : List V → List V → Hp → VK → Prop := fun vs zs H Q => ∃ (a : Addr) (xs : List V) (P : Nat → Hp → List V → Prop), vs = [V.ref a] ∧ zs = [V.ref f] ∧ SqL K H a xs ∧ P 0 H [] ∧
  (∀ i x H' ks, xs[i]? = some x → P i H' ks → sp [x] H' (fun v H'' => P (i + 1) H'' (ks ++ [v])) fun _ _ _ => False) ∧
  ∀ H' ks, P xs.length H' ks → ∃ kds : List PyData, DpAll K H' ks kds ∧ DLS.Selves kds ∧ DLS.Keys kds ∧ (∀ d ∈ kds, d.depth ≤ 60) ∧
    ∀ p, H p = none → H' p = none → Q (.ref p) (upd H' p (.lst (((xs.zip kds).mergeSort fun z z' => !PySem.W.dataLt z'.2 z.2).map Prod.fst)))
theorem dpall_each {H : Hp} {s : Shared} (I : Inv X pins σ H s) : ∀ {ks : List V} {kds : List PyData} {us : List Value}, DpAll X.K H ks kds → Vals ks us → PySem.W.EachIs (fun u d => ∃ as, Reads s.heap u d as) us kds
  | _, _, _, .nil, .nil => .nil
  | _, _, _, .cons h t, .cons r q => .cons (Dp.reads I _ _ _ h r) (dpall_each I t q)
theorem dpall_len {K : PySem.W.Frag} {H : Hp} : ∀ {ks : List V} {kds : List PyData}, DpAll K H ks kds → ks.length = kds.length
  | _, _, .nil => rfl
  | _, _, .cons _ t => by rw [List.length_cons, List.length_cons, dpall_len t]
theorem each_zip {α β γ : Type} {R1 : α → β → Prop} : ∀ {as : List α} {bs : List β} {cs : List γ}, PySem.W.EachIs R1 as bs → bs.length = cs.length → PySem.W.EachIs (fun a (z : β × γ) => R1 a z.1) as (bs.zip cs)
  | _, _, [], .nil, _ => .nil
  | _, _, _ :: _, .cons h t, e => .cons h (each_zip t (by rw [List.length_cons, List.length_cons] at e; omega))
  | _, _, [], .cons _ _, e => by cases e
  | _, _, _ :: _, .nil, e => by cases e
theorem each_zip2 {α β γ : Type} {R1 : α → γ → Prop} : ∀ {as : List α} {bs : List β} {cs : List γ}, PySem.W.EachIs R1 as cs → bs.length = cs.length → PySem.W.EachIs (fun a (z : β × γ) => R1 a z.2) as (bs.zip cs)
  | _, [], _, .nil, _ => .nil
  | _, _ :: _, _, .cons h t, e => .cons h (each_zip2 t (by rw [List.length_cons, List.length_cons] at e; omega))
  | _, [], _, .cons _ _, e => by cases e
  | _, _ :: _, _, .nil, e => by cases e
theorem vals_each : ∀ {out : List Value} {l : List (V × PyData)}, PySem.W.EachIs (fun v (z : V × PyData) => RelV z.1 v) out l → Vals (l.map Prod.fst) out
  | _, _, .nil => .nil
  | _, _, .cons h t => .cons h (vals_each t)
theorem call_sortedKey (F : FnOk X.prog X.w X.K X.mg X.base (L2.CX X.prog X.w) k f fd ps sp) (hr : Room (k + 1) X.A) (hb : Binds X.K fd ps []) : CallRK X (.builtin "sorted") [Str.ofString "key"] (rSortKey X.K f sp) := by
  intro pins s σ H vs zs us ws Q I r rz h
  obtain ⟨a, xs, P, rfl, rfl, hs, p0, step, fin⟩ := h
  obtain rfl := Vals.ref1 r
  obtain ⟨w1, rfl, e1⟩ := vals1 rz
  obtain rfl : w1 = Value.ref f := e1
  obtain ⟨its, rv, hl, hz⟩ := I.list hs
  have hz' : its.length ≤ sizeLine := by rw [← rv.length]; exact hz
  have hr2 := room_in2 hr
  show wpAny (model X.prog X.w) X.A (call (.builtin "sorted") [.ref a] [(Str.ofString "key", .ref f)]) _ _ s
  refine PySem.W.sorted_of_sort hl.isList hz' (PyProof.Rows.ksk_s1 _ _) (fun _ => PyProof.Rows.ksk_l1 _ _) fun E' => ?_
  rw [PyProof.Rows.ksk_t1]
  obtain ⟨D, hD⟩ : ∃ D, D = s.heap.objs.size + 1 := ⟨_, rfl⟩
  rw [← hD]
  have cD : (PySem.W.copyHeap s.heap its).get? D = some (seqObj "list" its.toArray 0) := by rw [hD]; exact PySem.W.copyHeap_at s.heap its
  have cO : ∀ b o, s.heap.get? b = some o → (PySem.W.copyHeap s.heap its).get? b = some o := fun b o e => PySem.W.copyHeap_old e
  generalize PySem.W.copyHeap s.heap its = hc at cD cO
  have lD : D < hc.objs.size := Heap.lt_size cD
  obtain ⟨ep, ho1⟩ : ∃ ep, (hc.update D (Obj.mapSeq fun _ => (#[] : Array Value))).get? D = some (seqObj "list" #[] ep) := ⟨_, get?_update_seq cD fun _ => #[]⟩
  have sb := Heap.SameBut.update hc D (Obj.mapSeq fun _ => (#[] : Array Value))
  unfold PyProof.Rows.ksk_tree
  refine wpAny_bind (listItems_at cD rfl ?_)
  refine wpAny_bind (listUpdate_at cD rfl ?_ (by rw [List.size_toArray]; exact hz') (Nat.zero_le _))
  refine wpAny_bind (seqEpoch_at ho1 rfl ?_)
  refine wpAny_bind (wpAny_newTuple ?_ (by show its.length ≤ _; exact hz'))
  refine wpAny_bind (wpAny_newList ?_ (Nat.zero_le _))
  refine wpAny_holding ?_
  obtain ⟨kS, hkS⟩ : ∃ kS, kS = ((hc.update D (Obj.mapSeq fun _ => (#[] : Array Value))).push (seqObj "tuple" its.toArray 0)).objs.size := ⟨_, rfl⟩
  have eS : kS = hc.objs.size + 1 := by rw [hkS, size_push', Heap.size_update]
  have hg1 : (((hc.update D (Obj.mapSeq fun _ => (#[] : Array Value))).push (seqObj "tuple" its.toArray 0)).push (seqObj "list" #[] 0)).get? kS = some (seqObj "list" #[] 0) := by rw [hkS]; exact Heap.get?_push_size _ rfl
  have hg2 : (((hc.update D (Obj.mapSeq fun _ => (#[] : Array Value))).push (seqObj "tuple" its.toArray 0)).push (seqObj "list" #[] 0)).get? D = some (seqObj "list" #[] ep) := Heap.get?_push_of_some _ (Heap.get?_push_of_some _ ho1)
  have hg3 : ∀ b o, s.heap.get? b = some o → (((hc.update D (Obj.mapSeq fun _ => (#[] : Array Value))).push (seqObj "tuple" its.toArray 0)).push (seqObj "list" #[] 0)).get? b = some o := fun b o e => by
    have nb : b ≠ D := Nat.ne_of_lt (Nat.lt_of_lt_of_le (Heap.lt_size e) (by omega))
    exact Heap.get?_push_of_some _ (Heap.get?_push_of_some _ ((sb.2 b nb).trans (cO b o e)))
  show wpAny (model X.prog X.w) X.A.in1.in1 (PyProof.Rows.ksk_rest D (.ref f) false its.toArray ep (.ref ((hc.update D (Obj.mapSeq fun _ => (#[] : Array Value))).push (seqObj "tuple" its.toArray 0)).objs.size)) _ E' { s with heap := ((hc.update D (Obj.mapSeq fun _ => (#[] : Array Value))).push (seqObj "tuple" its.toArray 0)).push (seqObj "list" #[] 0) }
  rw [← hkS]
  generalize ((hc.update D (Obj.mapSeq fun _ => (#[] : Array Value))).push (seqObj "tuple" its.toArray 0)).push (seqObj "list" #[] 0) = hg at hg1 hg2 hg3 ⊢
  have I1 : Inv X pins σ H { s with heap := hg } := I.kept (t' := s.toks) hg3
  have nD : H D = none := I.hok.fresh (by omega)
  have nS : H kS = none := I.hok.fresh (by omega)
  have lL := I.lt
  have sz0 := I.sz
  have lD2 : s.heap.objs.size ≤ D := by omega
  have lS2 : s.heap.objs.size ≤ kS := by omega
  have I2 : Inv X ((kS, seqObj "list" #[] 0) :: (D, seqObj "list" #[] ep) :: pins) σ H { s with heap := hg } := I1.pins_of fun p m => by
    rcases List.mem_cons.mp m with rfl | m
    · exact ⟨hg1, nS, Nat.ne_of_gt (Nat.lt_of_lt_of_le lL lS2), I.nofs (by omega), fun v z => by cases z⟩
    · rcases List.mem_cons.mp m with rfl | m
      · exact ⟨hg2, nD, Nat.ne_of_gt (Nat.lt_of_lt_of_le lL lD2), I.nofs (by omega), fun v z => by cases z⟩
      · exact I1.pin p (List.mem_append_right _ m)
  have cel : ∀ x c, X.env.cells.lookup x = some c → c < s.heap.objs.size := fun x c e => by
    obtain ⟨v, o, q, _⟩ := I.cell x c e
    exact Heap.lt_size q
  have pinlt : ∀ p ∈ X.pn ++ pins, p.1 < s.heap.objs.size := fun p m => Heap.lt_size (I.pin p m).1
  refine keys_loop F hr2 hb rv hz' nS I2 (Nat.ne_of_gt (by omega)) (Nat.le_trans sz0 lS2) (fun x c e => Nat.ne_of_lt (Nat.lt_of_lt_of_le (cel x c e) lS2)) (fun p m => Nat.ne_of_lt (Nat.lt_of_lt_of_le (pinlt p m) lS2)) P p0 step fun s' H' ks kA e J rk hk hp => ?_
  obtain ⟨kds, hdp, hself, hkeys, hdep, q⟩ := fin H' ks hp
  obtain ⟨k1, k2, k3, k4, k5⟩ := J.pin (kS, seqObj "list" kA e) (List.mem_append_right _ (List.mem_cons_self ..))
  obtain ⟨d1, d2, d3, d4, d5⟩ := J.pin (D, seqObj "list" #[] ep) (List.mem_append_right _ (List.mem_cons_of_mem _ (List.mem_cons_self ..)))
  obtain ⟨G, g1, g2⟩ := L2.restrict s'.heap fun b => decide (b ≠ kS)
  have gS : G.get? kS = none := g2 kS (by simp)
  have gk : ∀ b, b ≠ kS → G.get? b = s'.heap.get? b := fun b hb => g1 b (by simpa using hb)
  have kp : PySem.W.KeepsBut D G s'.heap := fun b o _ e => by
    have nb : b ≠ kS := fun z => by
      rw [z, gS] at e
      cases e
    rw [gk b nb] at e
    exact e
  have er := dpall_each J hdp rk
  have ls := rv.length
  have lk := dpall_len hdp
  have lkA : kA.toList.length = kA.size := Array.length_toList
  have lr := rk.length
  have S := DLS.sorts_of (prog := X.prog) (w := X.w) (A := X.A.in1.in1) (s := s') er hself hkeys fun d m => by
    have := hdep d m
    have := hr.un
    show X.A.units + 1 + 1 + _ < _
    omega
  refine PySem.W.keyH_end (κ := PySem.W.dataKind s'.heap kds) (h₁ := G) kp gS k1 d1 (Nat.ne_of_gt (by omega)) S (by omega) hz' fun h' tk c kb hd' => ⟨rfl, ?_⟩
  have ek : PySem.W.EachIs (fun v d => (PySem.W.dataKind s'.heap kds).keyOf v = some (PySem.W.keyToks d)) kA.toList kds := (PySem.W.each_mem er).mono fun v d ⟨⟨as, rr⟩, m⟩ => DLS.kd_some hself m rr
  have lz : xs.length = kds.length := by omega
  have es := PySem.W.sortVals_each (κ := PySem.W.dataKind s'.heap kds) (rev := false) (fun z : V × PyData => PySem.W.keyToks z.2) (each_zip (cs := kds) (paired_each rv) lz) (each_zip2 (bs := xs) ek lz)
  generalize PySem.W.sortVals (PySem.W.dataKind s'.heap kds) false kA.toList its = out at es hd'
  have es' : PySem.W.EachIs (fun v (z : V × PyData) => RelV z.1 v) out ((xs.zip kds).mergeSort fun z z' => !PySem.W.dataLt z'.2 z.2) := es
  have vo : Vals (((xs.zip kds).mergeSort fun z z' => !PySem.W.dataLt z'.2 z.2).map Prod.fst) out := vals_each es'
  have hlen : (((xs.zip kds).mergeSort fun z z' => !PySem.W.dataLt z'.2 z.2).map Prod.fst).length ≤ sizeLine := by
    rw [List.length_map, List.length_mergeSort, List.length_zip]
    omega
  have q2 := q D nD d2
  generalize (((xs.zip kds).mergeSort fun z z' => !PySem.W.dataLt z'.2 z.2).map Prod.fst) = zz at vo hlen q2
  have J3 : Inv X pins σ H' s' := J.pins_of fun p m => J.pin p (List.mem_append_right _ (List.mem_cons_of_mem _ (List.mem_cons_of_mem _ m)))
  have kept : ∀ b o, b ≠ D → b ≠ kS → s'.heap.get? b = some o → h'.get? b = some o := fun b o n1 n2 eo => kb b o n1 (by rw [gk b n2]; exact eo)
  have neD : ∀ b u, H' b = some u → b ≠ D := fun b u e z => by rw [z, d2] at e; cases e
  have neS : ∀ b u, H' b = some u → b ≠ kS := fun b u e z => by rw [z, k2] at e; cases e
  refine ⟨.ref D, upd H' D (.lst zz), ?_, rfl, by rw [← hD] at *; exact q2⟩
  refine J3.step (ch := [kS, D]) (g' := s'.gens) (d' := s'.drawn) (t' := tk) (fun b m => ?_) (fun b o _ _ hc eo _ => ?_) (fun b o _ _ hc eo _ => ⟨o.slots, ?_⟩) (fun b o hc _ n => ?_) (fun b o hc eo => ⟨o, ?_⟩) (fun b ys e => ?_) (fun b o u e => ?_) (fun b pz e => ⟨#[], ?_⟩) (fun m hm => ?_) (fun b u e => ?_) J3.bare
  · rcases List.mem_cons.mp m with rfl | m
    · exact ⟨.inr (Nat.le_trans sz0 lS2), k3, fun x c e => Nat.ne_of_lt (Nat.lt_of_lt_of_le (cel x c e) lS2), fun p m => Nat.ne_of_lt (Nat.lt_of_lt_of_le (pinlt p m) lS2)⟩
    · obtain rfl := List.mem_singleton.mp m
      exact ⟨.inr (Nat.le_trans sz0 lD2), d3, fun x c e => Nat.ne_of_lt (Nat.lt_of_lt_of_le (cel x c e) lD2), fun p m => Nat.ne_of_lt (Nat.lt_of_lt_of_le (pinlt p m) lD2)⟩
  · exact kept b o (fun z => hc (by simp [z])) (fun z => hc (by simp [z])) eo
  · exact kept b o (fun z => hc (by simp [z])) (fun z => hc (by simp [z])) eo
  · rw [upd_ne (fun z => hc (by simp [z]))]
    exact n
  · exact kept b o (fun z => hc (by simp [z])) (fun z => hc (by simp [z])) eo
  · rw [upd_ne (neD _ _ e)]
    exact e
  · rw [upd_ne (neD _ _ e)]
    exact e
  · rw [upd_ne (neD _ _ e), e]
    simp
  · obtain ⟨o, es, ep, ho, rr⟩ := hm
    exact ⟨o, es, ep, kept _ o (Ne.symm d3) (Ne.symm k3) ho, rr⟩
  · by_cases hb : b = D
    · subst hb
      rw [upd_same] at e
      cases e
      exact ⟨hlen, out, c, vo, hd'⟩
    · rw [upd_ne hb] at e
      have st := J3.hok b u e
      refine st.stay (fun z v hz qz => kept z v ?_ ?_ qz) (fun z qz => ?_) fun z _ qz => ?_
      · rcases hz with z1 | z1
        · rw [z1]; exact hb
        · exact neD _ _ z1
      · rcases hz with z1 | z1
        · rw [z1]; exact neS _ _ e
        · exact neS _ _ z1
      · rw [upd_ne (neD _ _ qz)]
        exact qz
      · rw [upd_ne (neD _ _ qz)]
        exact qz
end
end DL
namespace DLR
open PySem PySem.Spec PyProof.Rows RT
/-! ### tuple(reversed(a tuple)) -/
theorem no_len : typeLookup (.type "reversed") "__len__" = pure none := by
  rw [typeLookup_type, builtinLookup_eq_fast]
  kernel_rfl
theorem a_hint : typeLookup (.type "reversed") "__length_hint__" = pure (some (.builtin "reversed.__length_hint__")) := by
  rw [typeLookup_type, builtinLookup_eq_fast]
  kernel_rfl
theorem slot_hint : Slot "reversed" "__length_hint__" "reversed.__length_hint__" :=
  .of (owner := "reversed") (n := "__length_hint__") (by rw [typeLookup_type, builtinLookup_eq_fast]; kernel_rfl) (by decide +kernel) (by decide +kernel) (by decide +kernel)
    (by first | exact .inl (by decide +kernel) | exact .inr (by decide +kernel)) (by rw [isSubtype_type]; kernel_rfl)
theorem entry_hint : entryFor table "reversed.__length_hint__" = some Builtin.«reversed.__length_hint__» := entryFor_of_tree (by kernel_rfl)
theorem args_hint (a : Value) : argsOk "reversed.__length_hint__" ⟨[a], []⟩ := by
  unfold argsOk
  rw [signature?_of (id := "reversed.__length_hint__") (n := "__length_hint__".toList.reverse) (o := ['d', 'e', 's', 'r', 'e', 'v', 'e', 'r']) (by kernel_rfl) owner_rt]
  kernel_rfl
section
variable {prog : Program} {w : World} {A : Around} {E : Value → Shared → Prop} {s : Shared}
theorem call_hint {it t : Addr} {us : Array Value} {Q : Value → Shared → Prop} (hi : IsRt s.heap it t ((us.size : Int) - 1)) (ht : IsTup s.heap t us)
    (hl : ∀ (A : Around) (E : Value → Shared → Prop) (Q : Value → Shared → Prop), Q (.int us.size (s.toks + 1)) { s with toks := s.toks + 1 + 1 } → wpAny (model prog w) A (call (.builtin "len") [.ref t]) Q E s)
    (hQ : ∀ tk k, Q (.int us.size k) { s with toks := tk }) : wpAny (model prog w) A (call (.builtin "reversed.__length_hint__") [.ref it]) Q E s := by
  obtain ⟨o, ho, hc, hd⟩ := id hi
  refine wpAny_call_entry slot_hint hi.typeIs entry_hint ?_ (args_hint _)
  unfold Builtin.«reversed.__length_hint__»
  refine wpAny_bind (wpAny_of_eq (a := Value.ref it) rfl ?_)
  try dsimp only
  refine wpAny_bind (wpAny_field ho hd (x := .ref t) rfl ?_)
  try dsimp only
  rw [if_neg (by simp)]
  refine wpAny_bind (hl _ _ _ ?_)
  refine wpAny_bind (wpAny_of_eq (a := some ((us.size : Nat) : Int)) rfl ?_)
  try dsimp only
  refine wpAny_bind (wpAny_field (s := { s with toks := s.toks + 1 + 1 }) ho hd (x := rawInt ((us.size : Int) - 1)) rfl ?_)
  show wpAny _ _ (if ((us.size : Nat) : Int) < ((us.size : Int) - 1) + 1 then _ else _) _ _ _
  rw [if_neg (by omega)]
  refine wpAny_bind (wpAny_mkInt ?_)
  have e : (us.size : Int) - 1 + 1 = (us.size : Int) := by omega
  rw [e]
  exact wpAny_pure ⟨_, rfl, hQ _ _⟩
end
theorem rt_walk {prog : Program} {w : World} {A : Around} (hh : A.handled = none) (it t : Addr) (hne : t ≠ it) (us : Array Value) (hz : us.size ≤ sizeLine) :
    Walks prog w A it [it, t] [it] us.size (fun i v => us[us.size - 1 - i]? = some v) (fun i h => i ≤ us.size ∧ IsRt h it t ((us.size : Int) - 1 - (i : Int)) ∧ IsTup h t us) where
  sub := fun b m => by
    rw [List.mem_singleton.mp m]
    exact List.mem_cons_self ..
  frame := fun _ _ _ x kp => ⟨x.1, x.2.1.at fun o e => kp it (by simp) o e, by
    obtain ⟨o, ho, r⟩ := x.2.2
    exact ⟨o, kp t (by simp) o ho, r⟩⟩
  item := fun i s Q E hi x hQ => by
    have e1 : (us.size : Int) - 1 - (i : Int) = ((us.size - 1 - i : Nat) : Int) := by omega
    have x1 := x.2.1
    rw [e1] at x1
    have hx : us[us.size - 1 - i]? = some (us[us.size - 1 - i]'(by omega)) := Array.getElem?_eq_getElem (by omega)
    refine next_rt_item x1 x.2.2 hx hz fun g x2 sb => ?_
    have e2 : ((us.size - 1 - i : Nat) : Int) - 1 = (us.size : Int) - 1 - ((i + 1 : Nat) : Int) := by omega
    rw [e2] at x2
    refine hQ _ g (s.toks + 1) hx ⟨hi, x2, ?_⟩ fun b o m eo => sb.extBut b o (fun z => m (by simp [z])) eo
    obtain ⟨o, ho, r⟩ := x.2.2
    exact ⟨o, (sb.2 t hne).trans ho, r⟩
  done := fun s Q E x hQ => by
    have e1 : (us.size : Int) - 1 - (us.size : Int) = -1 := by omega
    have x1 := x.2.1
    rw [e1] at x1
    exact next_rt_end hh x1 fun g eb => hQ g s.toks fun b o m eo => eb b o (fun z => m (by simp [z])) eo
  self := fun _ _ _ _ x hQ => iter_rt x.2.1 hQ
section
variable {prog : Program} {w : World} {A : Around} {E : Value → Shared → Prop} {s : Shared}
theorem room_or {M : Model} {β : Type} {c : Bool} {S : Addr} {m : Sem β} {P : β → Shared → Prop} (hS : s.heap.get? S = some { cls := .type "list", data := .seq ([] : List Value).toArray })
    (h : ∀ (hx : Heap) (c0 : Nat), (∀ b o, b ≠ S → s.heap.get? b = some o → hx.get? b = some o) → hx.get? S = some { cls := .type "list", dict := none, data := .seq #[] c0, slots := #[] } → wpAny M A m P E { s with heap := hx }) :
    wpAny M A (if c = true then (do rule "list.extend.makes-room"; Builtin.List.listTouch (.ref S); m) else m) P E s := by
  cases c with
  | false => exact h s.heap 0 (fun _ _ _ e => e) hS
  | true =>
    rw [if_pos rfl]
    refine wpAny_bind (wpAny_rule ?_)
    unfold Builtin.List.listTouch
    obtain ⟨c1, k1⟩ : ∃ c1, (s.heap.update S (Obj.mapSeq (·.push .none))).get? S = some (seqObj "list" #[.none] c1) := ⟨_, get?_update_seq (xs := #[]) (n := 0) hS (·.push .none)⟩
    obtain ⟨c2, k2⟩ : ∃ c2, ((s.heap.update S (Obj.mapSeq (·.push .none))).update S (Obj.mapSeq (·.pop))).get? S = some (seqObj "list" #[] c2) := ⟨_, get?_update_seq k1 (·.pop)⟩
    refine wpAny_bind (wpAny_bind (listUpdate_at (xs := #[]) (n := 0) hS rfl ?_ (Nat.zero_le _) (by show (1 : Nat) ≤ _; rw [sizeLine_eq]; decide)))
    refine listUpdate_at k1 rfl ?_ (by show (1 : Nat) ≤ _; rw [sizeLine_eq]; decide) (by show (0 : Nat) ≤ _; exact Nat.zero_le _)
    have s1 := Heap.SameBut.update s.heap S (Obj.mapSeq (·.push Value.none))
    have s2 := Heap.SameBut.update (s.heap.update S (Obj.mapSeq (·.push Value.none))) S (Obj.mapSeq (·.pop))
    exact h _ c2 (fun b o hb e => (s2.2 b hb).trans ((s1.2 b hb).trans e)) k2
theorem gather {it t : Addr} {us : Array Value} {Q : List Value → Shared → Prop} (hh : A.handled = none) (hi : IsRt s.heap it t ((us.size : Int) - 1)) (ht : IsTup s.heap t us) (hne : t ≠ it) (hz : us.size ≤ sizeLine) (hlen : ∀ (s : Shared), IsTup s.heap t us → ∀ (A : Around) (E : Value → Shared → Prop) (Q : Value → Shared → Prop), Q (.int us.size (s.toks + 1)) { s with toks := s.toks + 1 + 1 } → wpAny (model prog w) A (call (.builtin "len") [.ref t]) Q E s)
    (hQ : ∀ (g : Heap) (tk : Nat) (acc : Array Value), (∀ b o, b ≠ it → s.heap.get? b = some o → g.get? b = some o) → ItemsOf (fun i v => us[us.size - 1 - i]? = some v) acc us.size → Q acc.toList { s with heap := g, toks := tk }) :
    wpAny (model prog w) A (collect (.ref it)) Q E s := by
  have W := (rt_walk (prog := prog) (w := w) (A := A.in1) hh it t hne us hz).toS
  obtain ⟨o1, ho1, _⟩ := id hi
  obtain ⟨o2, ho2, _⟩ := id ht
  have n1 : s.heap.objs.size ≠ it := Nat.ne_of_gt (Heap.lt_size ho1)
  have n2 : s.heap.objs.size ≠ t := Nat.ne_of_gt (Heap.lt_size ho2)
  have n3 : s.heap.objs.size ∉ [it, t] := by simp only [List.mem_cons, List.not_mem_nil, or_false, not_or]; exact ⟨n1, n2⟩
  unfold collect
  refine wpAny_bind (wpAny_runValue (codeAny_builtin F.entry_proto_collect ?_))
  rw [Around.under_plainId F.plain_proto_collect _]
  show wpAny _ A.in1 (newList [] >>= fun z => again (.builtin "list.__iadd__" ⟨[z, .ref it], []⟩)) _ _ s
  refine wpAny_bind (wpAny_newObj_type ?_)
  refine wpAny_pure ⟨plainId_quiet F.plain_list_iadd _, codeAny_builtin F.entry_list_iadd ?_⟩
  rw [Around.under_plainId F.plain_list_iadd _]
  have g0 : (s.heap.push { cls := .type "list", data := .seq ([] : List Value).toArray }).get? s.heap.objs.size = some { cls := .type "list", data := .seq ([] : List Value).toArray } := Heap.get?_push_size _ rfl
  have g1 : IsRt (s.heap.push { cls := .type "list", data := .seq ([] : List Value).toArray }) it t ((us.size : Int) - 1) := hi.at fun o e => Heap.get?_push_of_some _ e
  have g2 : IsTup (s.heap.push { cls := .type "list", data := .seq ([] : List Value).toArray }) t us := by
    obtain ⟨o, ho, r⟩ := ht
    exact ⟨o, Heap.get?_push_of_some _ ho, r⟩
  have hT : ({ s with heap := s.heap.push { cls := .type "list", data := .seq ([] : List Value).toArray } } : Shared).TypeIs (.ref it) "reversed" := IsRt.typeIs (s := { s with heap := s.heap.push { cls := .type "list", data := .seq ([] : List Value).toArray } }) g1
  have h1 : Builtin.List.listSameRef (.ref s.heap.objs.size) (.ref it) = false := by simp [Builtin.List.listSameRef, n1]
  show wpAny _ A.in1 (Builtin.List.listExtendWith (.ref s.heap.objs.size) (.ref it) (.ref s.heap.objs.size)) _ _ _
  unfold Builtin.List.listExtendWith
  refine wpAny_bind (wpAny_typeOf hT ?_)
  rw [if_neg (by rw [h1]; decide)]
  refine wpAny_bind (iter_rt (s := { s with heap := s.heap.push { cls := .type "list", data := .seq ([] : List Value).toArray } }) g1 ?_)
  refine wpAny_bind (wpAny_holding ?_)
  unfold Builtin.List.listLengthHint
  refine wpAny_bind (wpAny_specialOf hT no_len ?_)
  show wpAny _ A.in1 (specialOf (Value.ref it) (Str.ofString "__length_hint__") >>= _) _ _ _
  refine wpAny_bind (wpAny_specialOf hT a_hint ?_)
  generalize hid : ("reversed.__length_hint__" : String) = id0
  wp_delta
  rw [show splitId id0 = some ("reversed", "__length_hint__") from by subst hid; decide +kernel]
  subst hid
  refine wpAny_bind (wpAny_isInstance (b := true) hT (by rw [isSubtype_type]; kernel_rfl) ?_)
  rw [if_neg (by decide)]
  try dsimp only
  rw [if_neg (by decide +kernel)]
  refine wpAny_bind (wpAny_rule ?_)
  refine wpAny_bind (wpAny_of_eq (a := (Value.builtin "reversed.__length_hint__", [Value.ref it])) (by first | rfl | kernel_rfl) ?_)
  try dsimp only
  refine wpAny_bind (wpAny_attempt (call_hint (s := { s with heap := s.heap.push { cls := .type "list", data := .seq ([] : List Value).toArray } }) g1 g2 (fun A E Q k => hlen _ g2 A E Q k) fun tk kk => ?_))
  try dsimp only
  have ea : asInt? (Value.int ((us.size : Nat) : Int) kk) = pure (some ((us.size : Nat) : Int)) := rfl
  rw [ea, pure_bind]
  try dsimp only
  have h16 : (us.size : Int) ≤ 16777216 := by
    rw [sizeLine_eq] at hz
    omega
  have hfit : Builtin.List.listFitsIndex (us.size : Int) = true := by
    unfold Builtin.List.listFitsIndex
    rw [Bool.and_eq_true]
    exact ⟨decide_eq_true (Int.le_trans (show -(2 ^ 63 : Int) ≤ 0 by decide) (Int.natCast_nonneg _)), decide_eq_true (Int.lt_of_le_of_lt h16 (by decide))⟩
  rw [hfit]
  rw [if_neg (by decide), if_neg (by omega)]
  have hlong : Builtin.List.listTooLong (us.size : Int).toNat = false := by
    unfold Builtin.List.listTooLong
    exact decide_eq_false (by rw [Int.toNat_natCast]; omega)
  rw [hlong]
  rw [if_neg (by decide)]
  refine wpAny_pure ?_
  have e0 : ((us.size : Nat) : Int) - 1 - ((0 : Nat) : Int) = (us.size : Int) - 1 := by omega
  refine room_or g0 fun hx c0 hk hS => ?_
  have e0 : ((us.size : Nat) : Int) - 1 - ((0 : Nat) : Int) = (us.size : Int) - 1 := by omega
  have g3 : IsRt hx it t ((us.size : Int) - 1) := g1.at fun o e => hk it o (Ne.symm n1) e
  have g4 : IsTup hx t us := by
    obtain ⟨o, ho, r⟩ := g2
    exact ⟨o, hk t o (Ne.symm n2) ho, r⟩
  refine wpAny_pure ⟨plainId_quiet F.plain_extend_loop _, codeAny_extend_loopS W hz _ n3 _ us.size 0 _ _ _ rfl (Nat.zero_le _) ⟨Nat.zero_le _, by rw [e0]; exact g3, g4⟩ hS (ItemsOf.nil _) fun s2 acc c hm hS2 hacc => ?_⟩
  show wpAny _ A (load s.heap.objs.size >>= _) _ _ s2
  refine wpAny_bind (wpAny_load hS2 ?_)
  refine wpAny_pure ?_
  rw [Moved.eq_with hm]
  refine hQ s2.heap s2.toks acc (fun b o hb e => hm.heap b o (fun m => ?_) (hk b o (fun z => absurd (Heap.lt_size e) (by rw [z]; exact Nat.lt_irrefl _)) (Heap.get?_push_of_some _ e))) hacc
  rcases List.mem_cons.mp m with z | m
  · exact absurd (Heap.lt_size e) (by rw [z]; exact Nat.lt_irrefl _)
  · exact hb (List.mem_singleton.mp m)
theorem make_rev {it t : Addr} {us : Array Value} {Q : Value → Shared → Prop} (hh : A.handled = none) (hi : IsRt s.heap it t ((us.size : Int) - 1)) (ht : IsTup s.heap t us) (hne : t ≠ it) (hz : us.size ≤ sizeLine)
    (h : ∀ (g : Heap) (tk : Nat) (acc : Array Value), (∀ b o, b ≠ it → s.heap.get? b = some o → g.get? b = some o) → ItemsOf (fun i v => us[us.size - 1 - i]? = some v) acc us.size → Q (.ref g.objs.size) { s with heap := g.push { cls := .type "tuple", data := .seq acc }, toks := tk }) :
    codeAny (model prog w) A (.call (.builtin "tuple.__new__") ⟨[.type "tuple", .ref it], []⟩) (wants Q E) s := by
  refine codeAny_of_tree ?_
  show wpAny _ A.in1 (do checkBuiltinCall "tuple.__new__" ⟨[.type "tuple", .ref it], []⟩; again (.builtin "tuple.__new__" ⟨[.type "tuple", .ref it], []⟩)) _ _ s
  refine wpAny_bind (wpAny_of_eq (F.newCall_tuple_1 _) (wpAny_pure ⟨plainId_quiet F.plain_tuple_new _, codeAny_builtin F.entry_tuple_new ?_⟩))
  rw [Around.under_plainId F.plain_tuple_new _]
  have q1 := sub_tuple_self
  have q2 := init_tuple_lookup
  have q3 := madeHere_tuple
  have hT : s.TypeIs (.ref it) "reversed" := hi.typeIs
  have hh1 : A.in1.handled = none := hh
  have hlen : ∀ (s : Shared), IsTup s.heap t us → ∀ (A : Around) (E : Value → Shared → Prop) (Q : Value → Shared → Prop), Q (.int us.size (s.toks + 1)) { s with toks := s.toks + 1 + 1 } → wpAny (model prog w) A (call (.builtin "len") [.ref t]) Q E s := fun s x A E Q k =>
    len_tuple x (Int.lt_of_le_of_lt (show (us.size : Int) ≤ 16777216 by rw [sizeLine_eq] at hz; omega) (by decide)) k
  wp_walk using wpAny_typeOf hT, gather (A := A.in1) hh1 hi ht hne hz hlen
  intro g tk acc hk hacc
  show wpAny _ _ (Builtin.Tuple.tupleExact acc.toList.toArray >>= fun v => ret v) _ _ _
  unfold Builtin.Tuple.tupleExact
  refine wpAny_bind (wpAny_newObj_type ?_ (by show acc.toList.toArray.size ≤ sizeLine; simp only [Array.toArray_toList]; rw [hacc.1]; exact hz))
  refine wpAny_pure ?_
  rw [Array.toArray_toList]
  exact h g tk acc hk hacc
theorem call_rev {it t : Addr} {us : Array Value} {Q : Value → Shared → Prop} (hh : A.handled = none) (hi : IsRt s.heap it t ((us.size : Int) - 1)) (ht : IsTup s.heap t us) (hne : t ≠ it) (hz : us.size ≤ sizeLine)
    (hQ : ∀ (g : Heap) (tk : Nat) (acc : Array Value), (∀ b o, b ≠ it → s.heap.get? b = some o → g.get? b = some o) → ItemsOf (fun i v => us[us.size - 1 - i]? = some v) acc us.size → Q (.ref g.objs.size) { s with heap := g.push { cls := .type "tuple", data := .seq acc }, toks := tk }) :
    wpAny (model prog w) A (call (.type "tuple") [.ref it]) Q E s := by
  refine callType_codes (Q₁ := fun obj s₁ => s₁.TypeIs obj "tuple" ∧ Q obj s₁) F.called_tuple (F.typeCall_tuple_1 _) F.entry_object_init (make_rev (A := A.in1) hh hi ht hne hz fun g tk acc hk hacc => ⟨⟨_, Heap.get?_push_size _ rfl, rfl⟩, hQ g tk acc hk hacc⟩) fun obj s₁ h₁ => ?_
  exact ⟨h₁.1, F.args_object_init_2 obj _, object_init_meets F.called_tuple.init.lookup F.called_tuple.made (by decide) prog w A.in1 _ s₁ ⟨h₁.1, rfl, h₁.2⟩⟩
end
end DLR
namespace DL
open PySem PySem.Spec PyProof.Rows L2 RT
section
variable {X : Cx}
def tRevT (K : PySem.W.Frag) (te : TE) : TE := fun σ H Q => te σ H fun v H1 => ∃ (a : Addr) (xs : List V), v = .ref a ∧ SqT K H1 a xs ∧ ∀ q, H1 q = none → Q (.ref q) (upd H1 q (.tup xs.reverse))
theorem pe_revT {e : Expr} {te : TE} {p p2 pos pos2 : Pos} (hc : X.calm = true) (hg : Gl X "tuple") (hm : X.mg "tuple" = none) (hg2 : Gl X "reversed") (hm2 : X.mg "reversed" = none) (he : PE X e te)
    (hs : starEach [e] X.env = (false, eval e X.env) :: starEach [] X.env := by rfl)
    (hs2 : starEach [.Call (.Name "reversed" p2) [e] [] pos2] X.env = (false, eval (.Call (.Name "reversed" p2) [e] [] pos2) X.env) :: starEach [] X.env := by rfl) :
    PE X (.Call (.Name "tuple" p) [.Call (.Name "reversed" p2) [e] [] pos2] [] pos) (tRevT X.K te) := by
  refine ⟨fun pins s σ H Q I h => ?_⟩
  refine Call_ (ld_blt I hg hm boot_tuple (PyProof.Rows.callWith_type1 (args_cons (Call_ (ld_blt I hg2 hm2 PyProof.Rows.boot_reversed (PyProof.Rows.callWith_type1 (args_cons (thn (he.run pins s σ H _ I h) fun u s1 ⟨v, H1, I1, r1, q1⟩ => args_nil ?_) hs) hs rfl))) hs2) hs2 rfl))
  obtain ⟨a, xs, ev, hq, q⟩ := q1
  subst ev
  obtain rfl : u = Value.ref a := r1
  obtain ⟨its, rv, ht, hz⟩ := I1.tuple hq
  have hl := rv.length
  have hn := line63
  have hz2 : its.toArray.size ≤ sizeLine := by rw [List.size_toArray, ← hl]; exact hz
  refine call_reversed_tup ht (fun A E Q k => len_tuple ht (by simp only [List.size_toArray] <;> omega) k) (args_nil ?_)
  have I2 : Inv X pins σ H1 { s1 with heap := s1.heap.push (rtObj a ((its.toArray.size : Int) - 1)), toks := s1.toks + 1 + 1 } := I1.kept (t' := s1.toks + 1 + 1) fun b o e => Heap.get?_push_of_some _ e
  obtain ⟨f0, f1, f2, f3, f4, f5⟩ := I1.fpOk (H' := H1) (b := s1.heap.objs.size) (Nat.le_refl _) (I1.hok.fresh (Nat.le_refl _))
  obtain ⟨ol, hol, r2⟩ := id ht
  have hne : a ≠ s1.heap.objs.size := Nat.ne_of_lt (Heap.lt_size hol)
  refine DLR.call_rev (s := { s1 with heap := s1.heap.push (rtObj a ((its.toArray.size : Int) - 1)), toks := s1.toks + 1 + 1 }) (I1.ok.hd hc) ⟨_, Heap.get?_push_size _ rfl, rfl, rfl⟩ ⟨ol, Heap.get?_push_of_some _ hol, r2⟩ hne hz2 fun g tk acc hk hi => ?_
  have I3 : Inv X pins σ H1 { s1 with heap := g, toks := tk } := I2.turned (t' := tk) (fun b o hb e => hk b o hb e) f0 f1 f3 f4 f5
  refine ⟨.ref g.objs.size, upd H1 g.objs.size (.tup xs.reverse), I3.laid (t' := tk) (fun c o e => Heap.get?_push_of_some _ e) (Nat.le_refl _) (show ObjOk X.prog X.w _ _ _ (.tup xs.reverse) from ⟨by rw [List.length_reverse]; exact hz, acc.toList, vals_rev rv hi, ?_⟩), rfl, q _ (I3.hok.fresh (Nat.le_refl _))⟩
  rw [Array.toArray_toList]
  exact IsTup.new _ _
variable {B : Bs} {e : Expr} {te : DE} {pos p : Pos}
/-- tuple(reversed(t)) -/
def dRevT (te : DE) : DE := fun Γ S Q => te Γ S fun x S1 => match x with
  | .tup ds => Q (.tup ds.reverse) S1
  | _ => False
theorem pd_revT {p2 pos2 : Pos} (hc : X.calm = true) (hg : Gl X "tuple") (hm : X.mg "tuple" = none) (hg2 : Gl X "reversed") (hm2 : X.mg "reversed" = none) (he : PD X B e te)
    (hs : starEach [e] X.env = (false, eval e X.env) :: starEach [] X.env := by rfl)
    (hs2 : starEach [.Call (.Name "reversed" p2) [e] [] pos2] X.env = (false, eval (.Call (.Name "reversed" p2) [e] [] pos2) X.env) :: starEach [] X.env := by rfl) :
    PD X B (.Call (.Name "tuple" p) [.Call (.Name "reversed" p2) [e] [] pos2] [] pos) (dRevT te) := PE.weak (pe_revT hc hg hm hg2 hm2 he hs hs2) fun σ H Q h => by
  obtain ⟨Z, S, Γ, fp, ofp, P, r0, h, q⟩ := h
  refine ⟨Z, S, Γ, fp, ofp, _, r0, h, fun x S1 h1 Z1 H1 fp1 v r1 u1 b1 => ?_⟩
  cases x with
  | tup ds =>
    cases b1 with
    | @tup a0 xs0 _ ht dv =>
      refine ⟨_, _, rfl, same_sqT r1.fr ht, fun p hp => ?_⟩
      have l2 := r1.upF (o := .tup xs0.reverse) hp
      exact q _ S1 h1 _ _ fp1 _ (r1.growF hp) (u1.trans l2) (.tup (SqT.of (show upd Z1.F p (.tup xs0.reverse) p = _ from upd_same)) (dv.reverse.up l2))
  | _ => exact False.elim h1
end
end DL
namespace DL
open PySem PySem.Spec PyProof.Rows L2
/-! ### sorted(xs, key=f) on data -/
/-- a's key isn't behind b's -/
def leK (kf : D → D) (a b : D) : Bool := !PySem.W.dataLt (py (kf b)) (py (kf a))
def sortD (kf : D → D) (ds : List D) : List D := ds.mergeSort (leK kf)
def okKeys (kf : D → D) (ds : List D) : Prop := DLS.Selves (ds.map fun d => py (kf d)) ∧ DLS.Keys (ds.map fun d => py (kf d)) ∧ ∀ d ∈ ds, cmpOk (kf d)
theorem pyAll_map : ∀ ds : List D, pyAll ds = ds.map py
  | [] => by rw [pyAll]; rfl
  | d :: ds => by rw [pyAll, pyAll_map ds]; rfl
theorem pyOkAll_of : ∀ {ds : List D}, (∀ d ∈ ds, pyOk d = true) → pyOkAll ds = true
  | [], _ => by rw [pyOkAll]
  | d :: ds, h => by
    rw [pyOkAll, h d List.mem_cons_self, pyOkAll_of fun x m => h x (List.mem_cons_of_mem _ m)]
    rfl
theorem dvs_zip {K : PySem.W.Frag} {Z : Fz} : ∀ {xs : List V} {ds : List D}, DVs K Z xs ds → ∀ p ∈ xs.zip ds, DV K Z p.1 p.2
  | _, _, .nil, p, m => by cases m
  | _, _, .cons h t, p, m => by
    rw [List.zip_cons_cons] at m
    rcases List.mem_cons.mp m with rfl | m
    · exact h
    · exact dvs_zip t p m
theorem dvs_unzip {K : PySem.W.Frag} {Z : Fz} : ∀ (l : List (V × D)), (∀ p ∈ l, DV K Z p.1 p.2) → DVs K Z (l.map Prod.fst) (l.map Prod.snd)
  | [], _ => .nil
  | p :: l, h => .cons (h p List.mem_cons_self) (dvs_unzip l fun q m => h q (List.mem_cons_of_mem _ m))
theorem zip_map_r {α β γ : Type} (f : β → γ) : ∀ (xs : List α) (ds : List β), xs.zip (ds.map f) = (xs.zip ds).map fun p => (p.1, f p.2)
  | [], _ => rfl
  | _ :: _, [] => rfl
  | x :: xs, d :: ds => by
    rw [List.map_cons, List.zip_cons_cons, List.zip_cons_cons, List.map_cons, zip_map_r f xs ds]
theorem sort_dvs {K : PySem.W.Frag} {Z : Fz} {xs : List V} {ds : List D} (kf : D → D) (h : DVs K Z xs ds) : DVs K Z (((xs.zip (ds.map fun d => py (kf d))).mergeSort fun z z' => !PySem.W.dataLt z'.2 z.2).map Prod.fst) (sortD kf ds) := by
  have e1 : (xs.zip (ds.map fun d => py (kf d))).mergeSort (fun z z' => !PySem.W.dataLt z'.2 z.2) = ((xs.zip ds).mergeSort fun a b => leK kf a.2 b.2).map fun p => (p.1, py (kf p.2)) := by
    rw [zip_map_r]
    exact (PySem.W.sort_maps (fun p : V × D => (p.1, py (kf p.2))) fun a _ b _ => rfl).symm
  have e2 : sortD kf ds = ((xs.zip ds).mergeSort fun a b => leK kf a.2 b.2).map Prod.snd := by
    have q := PySem.W.sort_maps (r := fun a b : V × D => leK kf a.2 b.2) (s := leK kf) Prod.snd (l := xs.zip ds) fun a _ b _ => rfl
    rw [q, List.map_snd_zip (by rw [h.length]; exact Nat.le_refl _)]
    rfl
  rw [e1, e2, List.map_map]
  exact dvs_unzip _ fun p m => dvs_zip h p (List.mem_mergeSort.mp m)
def dSortK (g : DSpec) (kf : D → D) (te : DE) : DA := fun Γ S Q => te Γ S fun x S1 => match der S1 x with
  | .lst ds => (∀ d ∈ ds, ∀ P EP, P (.d (kf d)) S1 → g [d] S1 P EP) ∧ okKeys kf ds ∧ Q (sortD kf ds) S1
  | _ => False
section
variable {X : Cx} {B : Bs} {e : Expr} {te : DE} {pos p p2 kpos : Pos} {k : Nat} {g : DSpec} {x : Str} {q0 : Str}
theorem pf_sortK (kf : D → D) (h : Has X.prog X.w X.K X.mg X.base k x [q0] g) (hr : Room (k + 1) X.A) (hgs : Gl X "sorted") (hms : X.mg "sorted" = none) (he : PB X B e te)
    (hg : Gl X x := by rfl) (hdb : (x == ("__debug__" : Str)) = false := by decide)
    (hs : starEach [e] X.env = (false, eval e X.env) :: starEach [] X.env := by rfl)
    (q1 : backTo pos (starEach [e] X.env) = (false, eval e X.env) :: backTo pos (starEach [] X.env) := by rfl) (q2 : (backTo pos (starEach [e] X.env)).any (·.1) = false := by rfl)
    (q3 : (backToKw pos (keywordEach [⟨some "key", .Name x p2, kpos⟩] X.env)).all (·.1.isSome) = true := by rfl) (q4 : (backToKw pos (keywordEach [⟨some "key", .Name x p2, kpos⟩] X.env)).any (·.1.isNone) = false := by rfl)
    (q5 : (backToKw pos (keywordEach [⟨some "key", .Name x p2, kpos⟩] X.env)).filterMap (·.1) = [Str.ofString "key"] := by rfl) :
    PF X B (.Call (.Name "sorted" p) [e] [⟨some "key", .Name x p2, kpos⟩] pos) (dSortK g kf te) := by
  obtain ⟨f, fd, h1, h2, h3, h4⟩ := h.ex
  refine PE.weak (pe_callBK (call_sortedKey h4 hr h3) hgs hms bb_sorted (pa_cons he pa_nil hs) (pk_cons (nm := some "key") (pe_glob (v := .ref f) hg h1 rfl hdb) pk_nil) (by decide) (by decide) q1 q2 q3 q4 q5) fun σ H Q hh => ?_
  obtain ⟨Z, S, Γ, fp, ofp, P, r0, hh, q⟩ := hh
  refine ⟨Z, S, Γ, fp, ofp, _, r0, hh, fun y S1 y1 Z1 H1 fp1 v r1 u1 b1 => ?_⟩
  have b1 := b1.der (S := S1)
  generalize DL.der S1 y = y at b1 y1
  cases y with
  | lst ds =>
    obtain ⟨kk, ⟨ok1, ok2, ok3⟩, y1⟩ := y1
    obtain ⟨a, xs, rfl, hs1, dv⟩ := b1.list r1
    refine ⟨a, xs, fun i H' ks => ∃ Z' fp', St0 X.K Z' S1 H' fp' ∧ Up Z1 H1 fp1 Z' H' fp' ∧ DVs X.K Z' ks ((ds.take i).map kf), rfl, rfl, hs1, ⟨Z1, fp1, r1.st0, Up.refl _ _ _, .nil⟩, ?_, ?_⟩
    · rintro i y H' ks hy ⟨Z', fp', s0, up, dk⟩
      obtain ⟨d, hd, dy⟩ := dv.get hy
      have hm : d ∈ ds := List.mem_of_getElem? hd
      refine ⟨Z', S1, fp', [d], fun w S' => w = .d (kf d) ∧ S' = S1, fun _ _ => False, s0, .cons (dy.up up) .nil, kk d hm _ _ ⟨rfl, rfl⟩, ?_, fun _ _ z => z.elim⟩
      rintro w S' ⟨rfl, rfl⟩ Z2 H2 fp2 v s2 up2 b2
      refine ⟨Z2, fp2, s2, up.trans up2, ?_⟩
      have et : ds.take (i + 1) = ds.take i ++ [d] := by rw [List.take_add_one, hd]; rfl
      rw [et, List.map_append]
      exact (dk.up up2).append (.cons b2 .nil)
    · rintro H' ks ⟨Z', fp', s0, up, dk⟩
      have el : xs.length = ds.length := dv.length
      rw [List.take_of_length_le (by omega)] at dk
      have r2 := r1.called s0 up
      refine ⟨ds.map fun d => py (kf d), ?_, ok1, ok2, fun d m => ?_, fun p' hp1 hp2 => ?_⟩
      · have := dvs_dp r2.fr dk (pyOkAll_of fun x m => by
          obtain ⟨d, md, rfl⟩ := List.mem_map.mp m
          exact (ok3 d md).1)
        rw [pyAll_map, List.map_map] at this
        exact this
      · obtain ⟨d', md, rfl⟩ := List.mem_map.mp m
        exact (ok3 d' md).2
      · obtain ⟨n1, n2, n3, n4⟩ := r2.fresh hp2
        exact q _ S1 y1 Z' _ fp' p' _ (r2.grow hp2) ((u1.trans up).trans (r2.up0 hp2)) upd_same (sort_dvs kf (dv.up up)) n3 n1 n2 (u1.there _ hp1)
  | _ => exact False.elim y1
/-- sorted(texts) -/
def fSortS : List D → (List D → Prop) → Prop := fun xs P => match xs with
  | [.lst ds] => ∃ ss, strsOf ds = some ss ∧ ss.length < 64 ∧ ∀ ys : List Str, ys.Perm ss → sortedS ys = true → P (ys.map D.str)
  | _ => False
theorem o_sortS : CallR X (.builtin "sorted") (rSortedS X.K) ∧ CallF X B (rSortedS X.K) fSortS := ⟨cr_sortedS, fun {Z S Γ σ H fp ofp xs vs Q P} r bv h q => by
  unfold fSortS at h
  split at h
  · obtain ⟨ss, e1, hl, h⟩ := h
    rw [strsOf_eq e1] at bv
    cases bv with
    | cons b1 b2 =>
      cases b2
      obtain ⟨p, us, rfl, hs, hd⟩ := b1.list r
      rw [DVs.of_strs hd] at hs
      refine ⟨p, ss, rfl, hs, hl, fun ys l pm so hl => ?_⟩
      obtain ⟨q1, q2, q3, q4⟩ := r.fresh hl
      exact q _ (h ys pm so) Z _ l _ (r.grow hl) (r.up0 hl) upd_same (DVs.strs ys) q3 q1 q2 hl
  · exact h.elim⟩
end
end DL
namespace DL
open PySem PySem.Spec PyProof.Rows L2
section
variable {X : Cx} {B : Bs} {e : Expr} {te : DE} {pos : Pos}
/-- x.insert(j, e), x a slot's own list -/
def dIns (i : Nat) (ti te : DE) : DS := fun DD Γ S => match slotAt Γ i with
  | some (.own ds) => ti Γ S fun n S1 => te Γ S1 fun y S2 => sz (ds.length + 1) ∧ ∃ j : Nat, n = .int j ∧ j ≤ ds.length ∧ DD.nx (Γ.set i (some (.own (ds.take j ++ [y] ++ ds.drop j)))) S2
  | _ => False
theorem ps_dins (i : Nat) {x : Str} {p1 p2 p3 : Pos} {ix : Expr} {ti : DE} (hi : PD X B ix ti) (he : PD X B e te)
    (h : ∀ {ti' te' : TE}, PE X ix ti' → PE X e te' → PS X (.Expr (.Call (.Attribute (.Name x p1) "insert" p2) [ix, e] [] p3) pos) (tDrop (tBM X.K "list" (fun x vs H Q => ∃ (l : Addr) (xs : List V) (i : Int) (y : V), x = .ref l ∧ vs = [.int i, y] ∧ H l = some (.lst xs) ∧ xs.length < sizeLine ∧ 0 ≤ i ∧ i < 2 ^ 63 ∧
        Q .non (upd H l (.lst (xs.take i.toNat ++ [y] ++ xs.drop i.toNat)))) (tVar i) (tCons ti' (tCons te' tNil)))) := by
      exact fun h h2 => ps_expr (pe_bm PySem.F.plainAttrs_list PySem.F.slot_list_insert PySem.F.type_list_insert mt_insert (pv _) (pa_cons h (pa_cons h2 pa_nil)))) :
    PSD X B (.Expr (.Call (.Attribute (.Name x p1) "insert" p2) [ix, e] [] p3) pos) (dIns i ti te) := PS.weak (h hi he) fun Dn σ H h => by
  obtain ⟨Z, S, Γ, fp, ofp, DD, r, h, ok⟩ := h
  unfold dIns at h
  split at h
  · rename_i ds e0
    obtain ⟨a, xs, e1, h1, d1, k⟩ := r.write (ds' := []) e0
    refine ⟨_, e1, .inl ⟨rfl, _, SqL.of h1⟩, ?_⟩
    refine ⟨Z, S, Γ, fp, ofp, _, r, h, fun n S1 p1 Z1 H1 fp1 vn r1 u1 dn => ?_⟩
    refine ⟨Z1, S1, Γ, fp1, ofp, _, r1, p1, fun d S' p Z' H' fp' v r' l dv => ?_⟩
    obtain ⟨s1, j, rfl, hj, p⟩ := p
    cases dn
    obtain ⟨a', xs', e1', h1', d1', k'⟩ := r'.write (ds' := ds.take j ++ [d] ++ ds.drop j) e0
    rw [e1] at e1'
    cases e1'
    have hs : ds.length + 1 ≤ 100000 := s1
    have hl := d1'.length
    refine ⟨a, xs', (j : Int), v, rfl, rfl, h1', ?_, Int.natCast_nonneg _, ?_, ?_⟩
    · rw [hl]
      exact Nat.lt_of_lt_of_le (Nat.lt_succ_self _) s1.ok
    · have : (j : Int) ≤ 100000 := by omega
      exact Int.lt_of_le_of_lt this (by decide)
    · rw [Int.toNat_natCast]
      exact ok.nx _ _ _ _ _ _ _ (k' _ (((d1'.take j).append (.cons dv .nil)).append (d1'.drop j))) p
  · exact h.elim
/-- xs[::-1] -/
def dRevL (te : DE) : DA := fun Γ S Q => te Γ S fun x S1 => match der S1 x with
  | .lst ds => Q ds.reverse S1
  | _ => False
theorem pf_revL {k : Nat} {p1 p2 p3 : Pos} (he : PB X B e te) : PF X B (.Subscript e (.Slice none none (some (.UnaryOp .USub (.Constant (.int 1) k p1) p2)) p3) pos) (dRevL te) := PE.weak (pe_revL he) fun σ H Q h => by
  obtain ⟨Z, S, Γ, fp, ofp, P, r0, h, q⟩ := h
  refine ⟨Z, S, Γ, fp, ofp, _, r0, h, fun x S1 h1 Z1 H1 fp1 v r1 u1 b1 => ?_⟩
  have b1 := b1.der (S := S1)
  generalize DL.der S1 x = x at b1 h1
  cases x with
  | lst ds =>
    obtain ⟨a, xs, rfl, hs, dv⟩ := b1.list r1
    refine ⟨a, xs, rfl, hs, fun p hp => ?_⟩
    obtain ⟨n1, n2, n3, n4⟩ := r1.fresh hp
    exact q _ S1 h1 Z1 _ fp1 p _ (r1.grow hp) (u1.trans (r1.up0 hp)) upd_same dv.reverse n3 n1 n2 (u1.there _ hp)
  | _ => exact False.elim h1
/-- x < y of ints or of texts -/
def strLt (a b : Str) : Bool := decide (a.cps.toList < b.cps.toList)
def fLtS : D → D → (D → Prop) → Prop := fun x y P => match x, y with
  | .int i, .int j => P (.bl (decide (i < j)))
  | .str a, .str b => P (.bl (strLt a b))
  | _, _ => False
theorem o_ltS : OpR X (compareOp .Lt) (fun x y H Q => rI0 (fun i j => .bl (decide (i < j))) x y H Q ∨ ∃ i j, x = .str i ∧ y = .str j ∧ Q (.bl (decide (i.cps.toList < j.cps.toList))) H) ∧ OpD X B (fun x y H Q => rI0 (fun i j => .bl (decide (i < j))) x y H Q ∨ ∃ i j, x = .str i ∧ y = .str j ∧ Q (.bl (decide (i.cps.toList < j.cps.toList))) H) fLtS :=
  ⟨op_lt.or op_lt_str, fun {Z S Γ σ H fp ofp x y vx vy Q P} r bx by_ h q => by
    unfold fLtS at h
    split at h
    · exact .inl ⟨_, _, bx.int, by_.int, q _ h Z H _ r (.refl _ _ _) (.bl _)⟩
    · exact .inr ⟨_, _, bx.str, by_.str, q _ h Z H _ r (.refl _ _ _) (.bl _)⟩
    · exact h.elim⟩
end
end DL
namespace DL
open PySem PySem.Spec PyProof.Rows L2
section
variable {K : PySem.W.Frag} {Z : Fz} {H : Hp}
theorem GR.own_del : ∀ {σ : L2.St} {Γ : Gm} {as : List Addr} {i : Nat} {ds : List D} {a : Addr}, GR K Z H σ Γ as → slotAt Γ i = some (.own ds) → σ[i]? = some (some (.ref a)) → ∃ l r, as = l ++ [a] ++ r ∧ GR K Z H σ (Γ.set i none) (l ++ r)
  | _, _, _, _, _, _, .nil, e, _ => by cases e
  | _, _, _, 0, _, _, .gn _, e, _ => by cases e
  | _, _, _, i + 1, _, _, .gn q, e, e2 => by
    obtain ⟨l, r, e3, g⟩ := GR.own_del q e (by simpa using e2)
    exact ⟨l, r, e3, .gn g⟩
  | _, _, _, 0, _, a, .gs (bs := bs) h q, e, e2 => by
    cases e
    simp at e2
    subst e2
    cases h with
    | own h1 h2 => exact ⟨[], bs, rfl, .gn q⟩
  | _, _, _, i + 1, _, a, .gs (as := as1) h q, e, e2 => by
    obtain ⟨l, r, e3, g⟩ := GR.own_del q e (by simpa using e2)
    refine ⟨as1 ++ l, r, by rw [e3]; simp [List.append_assoc], ?_⟩
    have g2 := GR.gs h g
    simpa [List.append_assoc] using g2
end
section
variable {K : PySem.W.Frag} {B : Bs} {Z : Fz} {S : Sto} {Γ : Gm} {σ : L2.St} {H : Hp} {fp ofp : List Addr}
/-- a slot's own list is let be from now on -/
theorem R.letBe (r : R K B Z S Γ σ H fp ofp) {i : Nat} {ds : List D} (e : slotAt Γ i = some (.own ds)) : ∃ Z' ofp', R K B Z' S (Γ.set i (some (.d (.lst ds)))) σ H fp ofp' := by
  obtain ⟨v, bs, e1, w, hb⟩ := r.gm.get e
  cases w with
  | @own a xs _ h q =>
    obtain ⟨l, rr, e3, g⟩ := r.gm.own_del e e1
    have m : a ∈ ofp := hb a (List.mem_singleton.mpr rfl)
    have nd := List.nodup_append.mp r.nd
    have nf : a ∉ fp := fun z => nd.2.2 a z a m rfl
    have fa : Z.F a = none := r.nf a (List.mem_append_right _ m)
    have nd2 : (fp ++ (l ++ rr)).Nodup := by
      have := r.nd
      rw [e3] at this
      exact nodup_mid this
    have sub : ∀ b, b ∈ l ++ rr → b ∈ ofp := fun b z => by
      rw [e3]
      simp only [List.mem_append] at z ⊢
      rcases z with z | z
      · exact .inl (.inl z)
      · exact .inr z
    have na : a ∉ l ++ rr := fun z => by
      have n1 := nd.2.1
      rw [e3, List.append_assoc] at n1
      have p : (l ++ ([a] ++ rr)).Perm (a :: (l ++ rr)) := List.perm_middle
      exact (List.nodup_cons.mp ((p.nodup_iff).mp n1)).1 z
    have sub2 : ∀ b, b ∈ fp ++ (l ++ rr) → b ∈ fp ++ ofp := fun b z => (List.mem_append.mp z).elim (List.mem_append_left _) fun z => List.mem_append_right _ (sub b z)
    have r1 : R K B Z S (Γ.set i none) σ H fp (l ++ rr) := ⟨r.kk, r.fr, r.st, g, nd2, fun b z => r.nf b (sub2 b z), ⟨r.ext.le, r.ext.fl, r.ext.keep, r.ext.there, fun b z => r.ext.new b (sub2 b z), r.ext.frz⟩, fun b z => r.of b (sub b z)⟩
    have hB := r.of a m
    have r2 := r1.freeze h fa nf na hB
    have le := le_frz (Z := Z) (o := .lst xs) fa
    obtain ⟨ofp', r3, _⟩ := r2.setD i (v := .ref a) (x := .lst ds) (.lst (SqL.of (show upd Z.F a (.lst xs) a = _ from upd_same)) (q.mono le))
    rw [set_self_id σ i _ e1, List.set_set] at r3
    exact ⟨_, ofp', r3⟩
end
section
variable {X : Cx} {B : Bs} {ts : DS} {st : Stmt}
/-- before a statement a slot's own list is let be -/
def dBe (i : Nat) (ts : DS) : DS := fun DD Γ S => match slotAt Γ i with
  | some (.own ds) => ts DD (Γ.set i (some (.d (.lst ds)))) S
  | _ => ts DD Γ S
theorem ps_dbe (i : Nat) (h : PSD X B st ts) : PSD X B st (dBe i ts) := PS.weak h fun Dn σ H h => by
  obtain ⟨Z, S, Γ, fp, ofp, DD, r, h, ok⟩ := h
  unfold dBe at h
  split at h
  · rename_i ds e0
    obtain ⟨Z', ofp', r'⟩ := r.letBe e0
    exact ⟨Z', S, _, fp, ofp', DD, r', h, ok⟩
  · exact ⟨Z, S, Γ, fp, ofp, DD, r, h, ok⟩
end
end DL
namespace DL
open PySem PySem.Spec PyProof.Rows L2
/-! ### fields -/
def lookW : List Str → List W → Str → Option W
  | n :: nm, w :: ws, f => if n = f then some w else lookW nm ws f
  | _, _, _ => none
def putN (f : Str) : List Str → List Str
  | [] => [f]
  | g :: r => if g = f then g :: r else g :: putN f r
def putW (f : Str) (w : W) : List Str → List W → List W
  | g :: nm, x :: ws => if g = f then w :: ws else x :: putW f w nm ws
  | _, _ => [w]
section
variable {K : PySem.W.Frag} {Z Z' : Fz} {H H' : Hp}
theorem FsR.look : ∀ {nm : List Str} {fs : List (Str × V)} {ws : List W} {as : List Addr} {f : Str} {w : W}, FsR K Z H nm fs ws as → lookW nm ws f = some w → ∃ v bs, fs.lookup f = some v ∧ WR K Z H v w bs ∧ ∀ a ∈ bs, a ∈ as
  | _, _, _, _, _, _, .nil, e => by cases e
  | _, _, _, _, f, w, .cons (f := g) (v := v) (nm := nm) (r' := ws) h q, e => by
    unfold lookW at e
    by_cases z : g = f
    · rw [if_pos z] at e
      cases e
      subst z
      exact ⟨v, _, by simp [List.lookup], h, fun a m => List.mem_append_left _ m⟩
    · rw [if_neg z] at e
      obtain ⟨v2, bs, e1, h1, k⟩ := FsR.look q e
      refine ⟨v2, bs, ?_, h1, fun a m => List.mem_append_right _ (k a m)⟩
      have : (f == g) = false := beq_eq_false_iff_ne.mpr (Ne.symm z)
      rw [List.lookup_cons, this]
      exact e1
theorem FsR.miss : ∀ {nm : List Str} {fs : List (Str × V)} {ws : List W} {as : List Addr} {f : Str}, FsR K Z H nm fs ws as → lookW nm ws f = none → fs.lookup f = none
  | _, _, _, _, _, .nil, e => rfl
  | _, _, _, _, f, .cons (f := g) (v := v) (nm := nm) (r' := ws) h q, e => by
    unfold lookW at e
    by_cases z : g = f
    · rw [if_pos z] at e
      cases e
    · rw [if_neg z] at e
      have : (f == g) = false := beq_eq_false_iff_ne.mpr (Ne.symm z)
      rw [List.lookup_cons, this]
      exact FsR.miss q e
theorem FsR.len : ∀ {nm : List Str} {fs : List (Str × V)} {ws : List W} {as : List Addr}, FsR K Z H nm fs ws as → fs.length = nm.length ∧ ws.length = nm.length
  | _, _, _, _, .nil => ⟨rfl, rfl⟩
  | _, _, _, _, .cons _ q => by
    obtain ⟨a, b⟩ := q.len
    exact ⟨by rw [List.length_cons, List.length_cons, a], by rw [List.length_cons, List.length_cons, b]⟩
/-- a field stored -/
theorem FsR.putV : ∀ {nm : List Str} {fs : List (Str × V)} {ws : List W} {as bs : List Addr} {f : Str} {v : V} {w : W}, FsR K Z H nm fs ws as → WR K Z H v w bs →
    ∃ l m r, as = l ++ m ++ r ∧ FsR K Z H (putN f nm) (putF f v fs) (putW f w nm ws) (l ++ bs ++ r)
  | _, _, _, _, bs, f, _, _, .nil, h => ⟨[], [], [], rfl, by
    have := FsR.cons (f := f) h (FsR.nil (K := K) (Z := Z) (H := H))
    rw [List.nil_append]
    exact this⟩
  | _, _, _, _, bs, f, v, w, .cons (f := g) (v := v0) (as := as1) (bs := bs1) (nm := nm) (r' := ws) h0 q, h => by
    unfold putN putF putW
    by_cases z : g = f
    · rw [if_pos z, if_pos z, if_pos z]
      exact ⟨[], as1, bs1, rfl, .cons h q⟩
    · rw [if_neg z, if_neg z, if_neg z]
      obtain ⟨l, m, r, e, q2⟩ := FsR.putV (f := f) q h
      refine ⟨as1 ++ l, m, r, by rw [e]; simp [List.append_assoc], ?_⟩
      have := FsR.cons (f := g) h0 q2
      simpa [List.append_assoc] using this
end
section
variable {K : PySem.W.Frag} {B : Bs} {Z Z' : Fz} {S : Sto} {Γ : Gm} {σ : L2.St} {H H' : Hp} {fp ofp : List Addr}
/-- a cell is another, what it owns may be other lists of our own -/
theorem R.putC (r : R K B Z S Γ σ H fp ofp) {n : Nat} {o o' : O} {ho : HO} (e : cellAt S n = some o)
    (h : ∀ as0, OR K Z H (Z.ρ n) o as0 → as0.Nodup → (∀ b ∈ as0, b ∈ fp) → ∃ as', Z.ρ n ∈ as0 ∧ as'.Nodup ∧ (∀ b ∈ as', b ∈ as0 ∨ (Z.F b = none ∧ b ∉ fp ∧ b ∉ ofp ∧ B.H b = none)) ∧ ∀ H', H' (Z.ρ n) = some ho → (∀ a u, a ≠ Z.ρ n → H a = some u → H' a = some u) → OR K Z H' (Z.ρ n) o' as') :
    ∃ fp', R K B Z (S.set n o') Γ σ (upd H (Z.ρ n) ho) fp' ofp := by
  obtain ⟨l, as0, rr, e1, h1, k⟩ := r.st.get e
  simp only [Nat.zero_add] at h1 k
  have nd := List.nodup_append.mp r.nd
  have ndf := nd.1
  rw [e1] at ndf
  have ndl := List.nodup_append.mp ndf
  have ndl2 := List.nodup_append.mp ndl.1
  obtain ⟨as', ma, nda, hsub, k2⟩ := h as0 h1 ndl2.2.1 fun a m => by rw [e1]; exact List.mem_append_left _ (List.mem_append_right _ m)
  have mf : Z.ρ n ∈ fp := by rw [e1]; exact List.mem_append_left _ (List.mem_append_right _ ma)
  have na : ∀ b u, b ≠ Z.ρ n → H b = some u → upd H (Z.ρ n) ho b = some u := fun b u q e => by
    rw [upd_ne q]
    exact e
  have hl : ∀ a ∈ l, a ≠ Z.ρ n := fun a m z => ndl2.2.2 a m _ ma z
  have hr : ∀ a ∈ rr, a ≠ Z.ρ n := fun a m z => ndl.2.2 _ (List.mem_append_right _ ma) a m z.symm
  have lf : ∀ a ∈ l, a ∈ fp := fun a m => by rw [e1]; exact List.mem_append_left _ (List.mem_append_left _ m)
  have rf : ∀ a ∈ rr, a ∈ fp := fun a m => by rw [e1]; exact List.mem_append_right _ m
  have af : ∀ a ∈ as0, a ∈ fp := fun a m => by rw [e1]; exact List.mem_append_left _ (List.mem_append_right _ m)
  have fF : Z.F (Z.ρ n) = none := r.nf _ (List.mem_append_left _ mf)
  have h2 := k Z (upd H (Z.ρ n) ho) o' as' (.refl _) (by have := r.kk; omega) (fun a m u e => na a u (hl a m) e) (fun a m u e => na a u (hr a m) e) (k2 _ upd_same na)
  have ndN : (l ++ as' ++ rr).Nodup := by
    refine List.nodup_append.mpr ⟨List.nodup_append.mpr ⟨ndl2.1, nda, fun a m b mb z => ?_⟩, ndl.2.1, fun a m b mb z => ?_⟩
    · subst z
      rcases hsub a mb with q | q
      · exact ndl2.2.2 a m a q rfl
      · exact q.2.1 (lf a m)
    · subst z
      rcases List.mem_append.mp m with m | m
      · exact ndl.2.2 a (List.mem_append_left _ m) a mb rfl
      · rcases hsub a m with q | q
        · exact ndl.2.2 a (List.mem_append_right _ q) a mb rfl
        · exact q.2.1 (rf a mb)
  have cases3 : ∀ a, a ∈ l ++ as' ++ rr → a ∈ fp ∨ (Z.F a = none ∧ a ∉ fp ∧ a ∉ ofp ∧ B.H a = none) := fun a m => by
    rcases List.mem_append.mp m with m | m
    · rcases List.mem_append.mp m with m | m
      · exact .inl (lf a m)
      · exact (hsub a m).imp (af a) id
    · exact .inl (rf a m)
  refine ⟨l ++ as' ++ rr, by rw [List.length_set]; exact r.kk, fun b u e => na b u (fun z => by rw [z, fF] at e; cases e) (r.fr b u e), h2, r.gm.mono (.refl _) fun a m u e => na a u (fun z => nd.2.2 _ mf a m z.symm) e,
    List.nodup_append.mpr ⟨ndN, nd.2.1, fun a m b mb z => ?_⟩, fun a m => ?_, ⟨r.ext.le, r.ext.fl, fun b u e q => na b u (fun z => ?_) (r.ext.keep b u e q), fun b e => ?_, fun a m => ?_, r.ext.frz⟩, r.of⟩
  · subst z
    rcases cases3 a m with q | q
    · exact nd.2.2 a q a mb rfl
    · exact q.2.2.1 mb
  · rcases List.mem_append.mp m with m | m
    · rcases cases3 a m with q | q
      · exact r.nf a (List.mem_append_left _ q)
      · exact q.1
    · exact r.nf a (List.mem_append_right _ m)
  · subst z
    rcases r.ext.new _ (List.mem_append_left _ mf) with z | z
    · exact q z
    · rw [z] at e
      cases e
  · by_cases z : b = Z.ρ n
    · rw [z, upd_same] at e
      cases e
    · rw [upd_ne z] at e
      exact r.ext.there b e
  · rcases List.mem_append.mp m with m | m
    · rcases cases3 a m with q | q
      · exact r.ext.new a (List.mem_append_left _ q)
      · exact .inr q.2.2.2
    · exact r.ext.new a (List.mem_append_right _ m)
end
/-- a field stored: a value -/
theorem R.putFV {K : PySem.W.Frag} {B : Bs} {Z : Fz} {S : Sto} {Γ : Gm} {σ : L2.St} {H : Hp} {fp ofp : List Addr} (r : R K B Z S Γ σ H fp ofp) {n : Nat} {C dx : Addr} {nm : List Str} {ws : List W} {fs : List (Str × V)} (e : cellAt S n = some (.ins C nm ws)) (k : H (Z.ρ n) = some (.ins C dx fs)) (f : Str) {v : V} {y : D} (dv : DV K Z v y) :
    ∃ fp', R K B Z (S.set n (.ins C (putN f nm) (putW f (.d y) nm ws))) Γ σ (upd H (Z.ρ n) (.ins C dx (putF f v fs))) fp' ofp := by
  refine r.putC e fun as0 oc hn hin => ?_
  cases oc with
  | ins g1 g2 =>
    rw [k] at g1
    cases g1
    obtain ⟨l, m, rr, ea, q⟩ := g2.putV (f := f) (WR.d (H := H) dv)
    rw [List.append_nil] at q
    obtain ⟨hn1, hn2⟩ := List.nodup_cons.mp hn
    have sl : (l ++ rr).Sublist (l ++ m ++ rr) := by
      rw [List.append_assoc]
      exact (List.Sublist.refl l).append (List.sublist_append_right m rr)
    rw [← ea] at sl
    refine ⟨Z.ρ n :: (l ++ rr), List.mem_cons_self, List.nodup_cons.mpr ⟨fun z => hn1 (sl.subset z), hn2.sublist sl⟩, fun b mb => .inl ?_, fun H' g hk => ?_⟩
    · rcases List.mem_cons.mp mb with z | mb
      · rw [z]; exact List.mem_cons_self
      · exact List.mem_cons_of_mem _ (sl.subset mb)
    · exact .ins g (q.mono (.refl _) fun a ma u eu => hk a u (fun z => hn1 (by rw [← z]; exact sl.subset ma)) eu)
/-- .. a list of our own -/
theorem R.putFO {K : PySem.W.Frag} {B : Bs} {Z : Fz} {S : Sto} {Γ : Gm} {σ : L2.St} {H : Hp} {fp ofp : List Addr} (r : R K B Z S Γ σ H fp ofp) {n : Nat} {C dx : Addr} {nm : List Str} {ws : List W} {fs : List (Str × V)} (e : cellAt S n = some (.ins C nm ws)) (k : H (Z.ρ n) = some (.ins C dx fs)) (f : Str) {p : Addr} {xs : List V} {ds : List D}
    (hp : H p = some (.lst xs)) (dv : DVs K Z xs ds) (n1 : Z.F p = none) (n2 : p ∉ fp) (n3 : p ∉ ofp) (n4 : B.H p = none) :
    ∃ fp', R K B Z (S.set n (.ins C (putN f nm) (putW f (.own ds) nm ws))) Γ σ (upd H (Z.ρ n) (.ins C dx (putF f (.ref p) fs))) fp' ofp := by
  have np : p ≠ Z.ρ n := fun z => by
    rw [z, k] at hp
    cases hp
  refine r.putC e fun as1 oc hn hin => ?_
  cases oc with
  | @ins _ _ _ _ _ as2 g1 g2 =>
    rw [k] at g1
    cases g1
    obtain ⟨l, m, rr, ea, q⟩ := g2.putV (f := f) (WR.own (K := K) (Z := Z) hp dv)
    obtain ⟨hn1, hn2⟩ := List.nodup_cons.mp hn
    have sl : (l ++ rr).Sublist (l ++ m ++ rr) := by
      rw [List.append_assoc]
      exact (List.Sublist.refl l).append (List.sublist_append_right m rr)
    rw [← ea] at sl
    have pa : p ∉ as2 := fun z => n2 (hin p (List.mem_cons_of_mem _ z))
    have mem : ∀ b, b ∈ l ++ [p] ++ rr → b = p ∨ b ∈ l ++ rr := fun b z => by
      simp only [List.mem_append, List.mem_singleton] at z ⊢
      rcases z with (z | z) | z
      · exact .inr (.inl z)
      · exact .inl z
      · exact .inr (.inr z)
    have nd2 : (l ++ [p] ++ rr).Nodup := by
      have pm : (l ++ ([p] ++ rr)).Perm (p :: (l ++ rr)) := List.perm_middle
      rw [List.append_assoc]
      exact (pm.nodup_iff).mpr (List.nodup_cons.mpr ⟨fun z => pa (sl.subset z), hn2.sublist sl⟩)
    refine ⟨Z.ρ n :: (l ++ [p] ++ rr), List.mem_cons_self, List.nodup_cons.mpr ⟨fun z => ?_, nd2⟩, fun b mb => ?_, fun H' g hk => ?_⟩
    · rcases mem _ z with z | z
      · exact np z.symm
      · exact hn1 (sl.subset z)
    · rcases List.mem_cons.mp mb with z | mb
      · rw [z]; exact .inl List.mem_cons_self
      · rcases mem _ mb with z | z
        · rw [z]; exact .inr ⟨n1, n2, n3, n4⟩
        · exact .inl (List.mem_cons_of_mem _ (sl.subset z))
    · refine .ins g (q.mono (.refl _) fun a ma u eu => hk a u (fun z => ?_) eu)
      rw [z] at ma
      rcases mem _ ma with z2 | z2
      · exact np z2.symm
      · exact hn1 (sl.subset z2)
/-! ### a field read -/
/-- what a field of the object at cell n holds -/
def fldOf (S : Sto) (n : Nat) (C : Addr) (f : Str) : Option W := match cellAt S n with
  | some (.ins C' nm ws) => if C' = C then lookW nm ws f else none
  | _ => none
theorem fldOf_ex {S : Sto} {n : Nat} {C : Addr} {f : Str} {w : W} (h : fldOf S n C f = some w) : ∃ nm ws, cellAt S n = some (.ins C nm ws) ∧ lookW nm ws f = some w := by
  unfold fldOf at h
  split at h
  · rename_i C' nm ws e
    by_cases z : C' = C
    · rw [if_pos z] at h
      subst z
      exact ⟨nm, ws, e, h⟩
    · rw [if_neg z] at h
      cases h
  · cases h
section
variable {X : Cx} {B : Bs} {e o value : Expr} {te to' tv : DE} {tr : DA} {pos pos' apos : Pos} {f m : Str} {C : Addr} {es : List Expr} {w : WX} {ew : EW} {ps : List Str} {g : DSpec} {k : Nat} {x : Str} {p : Pos}
def dFld (C : Addr) (f : Str) (te : DE) : DE := fun Γ S Q => te Γ S fun x S1 => match x with
  | .ref n => ∃ y, fldOf S1 n C f = some (.d y) ∧ Q y S1
  | _ => False
theorem pd_fld (c : Cls X.K C) (na : NoAttr X.K C f) (he : PD X B e te) (hb : attributeBase e f X.env (eval e X.env) = eval e X.env := by rfl) : PD X B (.Attribute e f pos) (dFld C f te) := PE.weak (pe_fld he hb) fun σ H Q h => by
  obtain ⟨Z, S, Γ, fp, ofp, P, r0, h, q⟩ := h
  refine ⟨Z, S, Γ, fp, ofp, _, r0, h, fun x S1 h1 Z1 H1 fp1 v r1 u1 b1 => ?_⟩
  cases x with
  | ref n =>
    obtain ⟨y, hy, h1⟩ := h1
    obtain ⟨nm, ws, e1, e2⟩ := fldOf_ex hy
    cases b1
    obtain ⟨as, oc, _⟩ := r1.cell e1
    cases oc with
    | ins k1 k2 =>
      obtain ⟨v, bs, l1, wr, _⟩ := k2.look e2
      cases wr with
      | d dv => exact ⟨_, C, _, _, v, rfl, k1, c, na, l1, q _ S1 h1 Z1 H1 fp1 _ r1 u1 dv⟩
  | _ => exact False.elim h1
/-- len(o.f), f a list of the object's own or let be -/
def dFldLen (C : Addr) (f : Str) (te : DE) : DE := fun Γ S Q => te Γ S fun x S1 => match x with
  | .ref n => ∃ ds, (fldOf S1 n C f = some (.d (.lst ds)) ∨ fldOf S1 n C f = some (.own ds)) ∧ Q (.int ds.length) S1
  | _ => False
theorem pd_fldLen {lp : Pos} (c : Cls X.K C) (na : NoAttr X.K C f) (hg : Gl X "len") (hm : X.mg "len" = none) (he : PD X B e te) (hb : attributeBase e f X.env (eval e X.env) = eval e X.env := by rfl)
    (hs : starEach [.Attribute e f pos'] X.env = (false, eval (.Attribute e f pos') X.env) :: starEach [] X.env := by rfl) (hpl : (backTo pos (starEach [] X.env)).any (·.1) = false := by rfl) :
    PD X B (.Call (.Name "len" lp) [.Attribute e f pos'] [] pos) (dFldLen C f te) := PE.weak (pe_callB call_len_seq hg hm bb_len (pa_cons (pe_fld he hb) pa_nil hs) (by decide) (by decide) hs hpl) fun σ H Q h => by
  obtain ⟨Z, S, Γ, fp, ofp, P, r0, h, q⟩ := h
  refine ⟨Z, S, Γ, fp, ofp, _, r0, h, fun x S1 h1 Z1 H1 fp1 v r1 u1 b1 => ?_⟩
  cases x with
  | ref n =>
    obtain ⟨ds, hy, h1⟩ := h1
    cases b1
    rcases hy with hy | hy
    · obtain ⟨nm, ws, e1, e2⟩ := fldOf_ex hy
      obtain ⟨as, oc, _⟩ := r1.cell e1
      cases oc with
      | ins k1 k2 =>
        obtain ⟨v, bs, l1, wr, _⟩ := k2.look e2
        cases wr with
        | d dv =>
          cases dv with
          | lst hs dv => exact ⟨_, C, _, _, _, rfl, k1, c, na, l1, _, _, rfl, .inl (same_sqL r1.fr hs), by rw [dv.length]; exact q _ S1 h1 Z1 H1 fp1 _ r1 u1 (.int _)⟩
    · obtain ⟨nm, ws, e1, e2⟩ := fldOf_ex hy
      obtain ⟨as, oc, _⟩ := r1.cell e1
      cases oc with
      | ins k1 k2 =>
        obtain ⟨v, bs, l1, wr, _⟩ := k2.look e2
        cases wr with
        | own hs dv => exact ⟨_, C, _, _, _, rfl, k1, c, na, l1, _, _, rfl, .inl (SqL.of hs), by rw [dv.length]; exact q _ S1 h1 Z1 H1 fp1 _ r1 u1 (.int _)⟩
  | _ => exact False.elim h1
/-! ### a field stored -/
/-- the store with a field of cell n put -/
def putFld (S : Sto) (n : Nat) (f : Str) (w : W) : Sto := match cellAt S n with
  | some (.ins C nm ws) => S.set n (.ins C (putN f nm) (putW f w nm ws))
  | _ => S
def isIns (S : Sto) (n : Nat) (C : Addr) : Prop := ∃ nm ws, cellAt S n = some (.ins C nm ws) ∧ nm.length ≤ 30
def dFldSet (C : Addr) (f : Str) (to' te : DE) : DS := fun DD Γ S => te Γ S fun y S1 => to' Γ S1 fun x S2 => match x with
  | .ref n => isIns S2 n C ∧ DD.nx Γ (putFld S2 n f (.d y))
  | _ => False
theorem ps_fldset (c : Cls X.K C) (na : NoAttr X.K C f) (ho : PD X B o to') (hv : PD X B value tv) (hs : swapsWith value (some (.Attribute o f pos')) pos.line X.env = pure false := by rfl) :
    PSD X B (.Assign [.Attribute o f pos'] value pos) (dFldSet C f to' tv) := PS.weak (ps_fld ho hv hs) fun Dn σ H h => by
  obtain ⟨Z, S, Γ, fp, ofp, DD, r, h, ok⟩ := h
  refine ⟨Z, S, Γ, fp, ofp, _, r, h, fun y S1 h1 Z1 H1 fp1 vy r1 l1 b1 => ?_⟩
  refine ⟨Z1, S1, Γ, fp1, ofp, _, r1, h1, fun x S2 h2 Z2 H2 fp2 vx r2 l2 b2 => ?_⟩
  cases x with
  | ref n =>
    obtain ⟨⟨nm, ws, e1, hlen⟩, h3⟩ := h2
    cases b2
    unfold putFld at h3
    rw [e1] at h3
    obtain ⟨as, oc, _⟩ := r2.cell e1
    cases oc with
    | @ins _ dx _ fs _ as0 k1 k2 =>
      have hl := k2.len.1
      refine ⟨_, C, dx, fs, rfl, k1, c, na, by omega, ?_⟩
      obtain ⟨fp', r3⟩ := r2.putFV e1 k1 f (b1.up l2)
      exact ok.nx _ _ _ _ _ _ _ r3 h3
  | _ => exact False.elim h2
/-- o.f = a new list -/
def dFldSetF (C : Addr) (f : Str) (to' : DE) (tv : DA) : DS := fun DD Γ S => tv Γ S fun ds S1 => to' Γ S1 fun x S2 => match x with
  | .ref n => isIns S2 n C ∧ DD.nx Γ (putFld S2 n f (.own ds))
  | _ => False
def RefOnly (to' : DE) : Prop := ∀ Γ S (Q : D → Sto → Prop), to' Γ S Q → ∃ y, Q y S
theorem ps_fldsetF {tvF : DA} (i : Nat) {sx : Str} {sp' : Pos} (c : Cls X.K C) (na : NoAttr X.K C f) (hv : PF X B value tvF) (hN : X.N[i]? = some sx := by rfl) (hvis : Vis X.env.scope sx := by first | exact Or.inl rfl | exact Or.inr (Or.inl rfl) | exact Or.inr (Or.inr rfl)) (hd : (sx == ("__debug__" : Str)) = false := by decide)
    (hcd : (sx == ("__classdict__" : Str)) = false := by decide) (hs : swapsWith value (some (.Attribute (.Name sx sp') f pos')) pos.line X.env = pure false := by rfl) :
    PSD X B (.Assign [.Attribute (.Name sx sp') f pos'] value pos) (dFldSetF C f (dVar i) tvF) := PS.weak (ps_fld (pe_var hN hvis hd hcd) hv hs) fun Dn σ H h => by
  obtain ⟨Z, S, Γ, fp, ofp, DD, r, h, ok⟩ := h
  refine ⟨Z, S, Γ, fp, ofp, _, r, h, fun ds S1 h1 Z1 H1 fp1 p us r1 u1 e1 b1 m1 m2 m3 m4 => ?_⟩
  unfold dVar at h1
  split at h1
  · rename_i x e0
    obtain ⟨v, bs, e2, w, _⟩ := r1.gm.get e0
    refine ⟨v, e2, ?_⟩
    cases x with
    | ref n =>
      obtain ⟨⟨nm, ws, k0, hlen⟩, h3⟩ := h1
      unfold putFld at h3
      rw [k0] at h3
      cases w with
      | d dv =>
        cases dv with
        | ref hn =>
          obtain ⟨as, oc, _⟩ := r1.cell k0
          cases oc with
          | @ins _ dx _ fs _ as0 k1 k2 =>
            have hl := k2.len.1
            refine ⟨_, C, dx, fs, rfl, k1, c, na, by omega, ?_⟩
            obtain ⟨fp', r3⟩ := r1.putFO k0 k1 f e1 b1 m1 m2 m3 (r.ext.there _ m4)
            exact ok.nx _ _ _ _ _ _ _ r3 h3
    | _ => exact False.elim h1
  · exact h1.elim
/-! ### a method called, an object made -/
theorem pe_methS {pl : Sem Bool} {CX : CXT} {fA : Addr} {fd : FuncData} {sp : Sp} {E : L2.St → XK} {ta : TE} {t : TA} (he : PE X o ta) (c : Cls X.K C) (hm : Meth X.K C m fA) (F : FnOk X.prog X.w X.K X.mg X.base CX k fA fd ps sp) (hr : Room k X.A) (hb : Binds X.K fd ps []) (hx : ∀ σ, PassesAt CX X σ (E σ)) (ha : PA X (e :: es) t)
    (hst : starEach (e :: es) X.env = (false, eval e X.env) :: starEach es X.env := by rfl) (hpl : (backTo pos (starEach es X.env)).any (·.1) = false := by rfl)
    (ht : eval (.Call (.Attribute o m apos) (e :: es) [] pos) X.env = (do
      let ov ← eval o X.env
      standAt apos.atName
      let (f, first) ← holding [ov] (getMethod ov m pl)
      callWith pos f first (backTo pos (starEach (e :: es) X.env)) (backToKw pos (keywordEach [] X.env))) := by rfl) :
    PE X (.Call (.Attribute o m apos) (e :: es) [] pos) (fun σ H Q => ta σ H fun x H1 => ∃ a dx fs, x = .ref a ∧ H1 a = some (.ins C dx fs) ∧ fs.lookup m = none ∧ t σ H1 fun vs H2 => sp (x :: vs) H2 Q (E σ)) := by
  refine ⟨fun pins s σ H Q I h => ?_⟩
  refine PySem.W.methodCall_KW (pl := pl) (thn (he.run pins s σ H _ I h) fun u s1 ⟨x, H1, I1, rx, a, dx, fs, ex, ea, l, q⟩ => ?_) ht
  subst ex
  obtain rfl : u = Value.ref a := rx
  refine getmeth_ok I1 ea c hm l ?_
  refine PySem.W.callWith_K (first := [.ref a]) (h₀ := X.base) I.ok.mod.kin hm.kp (thn (ha.run pos pins s1 σ H1 _ I1 q) fun us s2 ⟨vs, H2, I2, r, q2⟩ => ⟨I2.kIn, ?_⟩) hst hpl
  exact run_fnS (us := .ref a :: us) (vs := .ref a :: vs) F hr hb (hx σ) I2 (.cons rfl r) q2
theorem pe_methS0 {pl : Sem Bool} {CX : CXT} {fA : Addr} {fd : FuncData} {sp : Sp} {E : L2.St → XK} {ta : TE} (he : PE X o ta) (c : Cls X.K C) (hm : Meth X.K C m fA) (F : FnOk X.prog X.w X.K X.mg X.base CX k fA fd ps sp) (hr : Room k X.A) (hb : Binds X.K fd ps []) (hx : ∀ σ, PassesAt CX X σ (E σ))
    (ht : eval (.Call (.Attribute o m apos) [] [] pos) X.env = (do
      let ov ← eval o X.env
      standAt apos.atName
      let (f, first) ← holding [ov] (getMethod ov m pl)
      callWith pos f first (backTo pos (starEach [] X.env)) (backToKw pos (keywordEach [] X.env))) := by rfl) :
    PE X (.Call (.Attribute o m apos) [] [] pos) (fun σ H Q => ta σ H fun x H1 => ∃ a dx fs, x = .ref a ∧ H1 a = some (.ins C dx fs) ∧ fs.lookup m = none ∧ sp [x] H1 Q (E σ)) := by
  refine ⟨fun pins s σ H Q I h => ?_⟩
  refine PySem.W.methodCall_KW (pl := pl) (thn (he.run pins s σ H _ I h) fun u s1 ⟨x, H1, I1, rx, a, dx, fs, ex, ea, l, q⟩ => ?_) ht
  subst ex
  obtain rfl : u = Value.ref a := rx
  refine getmeth_ok I1 ea c hm l ?_
  exact PySem.W.callWith_K0 (first := [.ref a]) I1.kIn hm.kp (run_fnS (us := [.ref a]) (vs := [.ref a]) F hr hb (hx σ) I1 (.cons rfl .nil) q)
theorem run_makeS {CX : CXT} {fA : Addr} {fd : FuncData} {sp : Sp} {E : L2.St → XK} {pins : List (Addr × Obj)} {σ : L2.St} {H : Hp} {s : Shared} {Q : VK} {us : List Value} {vs : List V} (M : Mk X.K C fA) (F : FnOk X.prog X.w X.K X.mg X.base CX k fA fd ps sp) (hr : Room (k + 1) X.A) (hb : Binds X.K fd ps []) (hx : PassesAt CX X σ (E σ)) (I : Inv X pins σ H s) (r : Vals vs us)
    (h : ∀ x dx, H x = none → H dx = none → dx ≠ x → sp (.ref x :: vs) (upd (upd H dx (.own x)) x (.ins C dx [])) (fun v H2 => v = .non ∧ Q (.ref x) H2) (E σ)) : wpAny (model X.prog X.w) X.A (call (.ref C) us) (EP X pins σ Q) X.xe s := by
  have hq := h (s.heap.objs.size + 1) s.heap.objs.size (I.hok.fresh (Nat.le_succ _)) (I.hok.fresh (Nat.le_refl _)) (Nat.ne_of_lt (Nat.lt_succ_self _))
  have I2 := Inv.made (C := C) I
  have r2 : Vals (V.ref (s.heap.objs.size + 1) :: vs) (Value.ref (s.heap.objs.size + 1) :: us) := .cons rfl r
  have hl : (Value.ref (s.heap.objs.size + 1) :: us).length = ps.length := by
    have e := r2.length
    rw [F.len _ _ _ _ hq] at e
    exact e.symm
  have bt := hb _ (Value.ref (s.heap.objs.size + 1) :: us) I2.kIn (by rw [List.append_nil]; exact hl)
  rw [List.append_nil] at bt
  refine wpAny_call (make_map (f := fA) I.kIn M.makes M.init (beq_iff_eq.mp M.fn) (codeAny_mono (F.run _ X.stack _ _ ⟨Value.ref (s.heap.objs.size + 1) :: us, []⟩ (Value.ref (s.heap.objs.size + 1) :: us) _ _ (E σ) (hr.make C us []) (I2.env0.make C us []) bt r2 hq) fun r s' hq' => ?_))
  cases r with
  | error e => exact hx pins _ _ e s' I2 hq'
  | ok fl =>
    cases fl with
    | ret u =>
      obtain ⟨v, H', I3, rv, ev, q3⟩ := I2.after hq'
      subst ev
      exact ⟨rv, ⟨V.ref (s.heap.objs.size + 1), H', I3, rfl, q3⟩⟩
    | next => exact False.elim hq'
    | brk => exact False.elim hq'
    | cont => exact False.elim hq'
/-- a method's promise, a class's -/
structure HasM (P : Program) (wd : World) (K : PySem.W.Frag) (mg : Str → Option Value) (base : Heap) (k : Nat) (C : Addr) (m : Str) (ps : List Str) (g : DSpec) : Prop where
  cl : Cls K C
  ex : ∃ (f : Addr) (fd : FuncData), Meth K C m f ∧ Binds K fd ps [] ∧ FnOk P wd K mg base (L2.CX P wd) k f fd ps (spS K g)
structure HasI (P : Program) (wd : World) (K : PySem.W.Frag) (mg : Str → Option Value) (base : Heap) (k : Nat) (x : Str) (C : Addr) (ps : List Str) (g : DSpec) : Prop where
  gm : mg x = some (.ref C)
  ex : ∃ (f : Addr) (fd : FuncData), Mk K C f ∧ Binds K fd ps [] ∧ FnOk P wd K mg base (L2.CX P wd) k f fd ps (spS K g)
/-- the object at x has no field of this name -/
def isObj (S : Sto) (C : Addr) (m : Str) (x : D) : Prop := ∃ n nm ws, x = .ref n ∧ cellAt S n = some (.ins C nm ws) ∧ lookW nm ws m = none
def dMethS (C : Addr) (m : Str) (g : DSpec) (ew : EW) (te : DE) (tr : DA) : DE := fun Γ S Q => te Γ S fun x S1 => isObj S1 C m x ∧ tr Γ S1 fun ds S2 => g (x :: ds) S2 (backD Q) fun c S3 => ew c Γ S3
def dMethSF (C : Addr) (m : Str) (g : DSpec) (ew : EW) (te : DE) (tr : DA) : DA := fun Γ S Q => te Γ S fun x S1 => isObj S1 C m x ∧ tr Γ S1 fun ds S2 => g (x :: ds) S2 (backF Q) fun c S3 => ew c Γ S3
theorem meth_run {E : L2.St → XK} (dx : DX X B w ew) {σ : L2.St} {H : Hp} {Q : VK} (h : liftD X.K B (dMethS C m g ew te tr) σ H Q) {t : TA} (ht : ∀ σ H Q', liftA X.K B tr σ H Q' → t σ H Q') : liftD X.K B te σ H fun x H1 => ∃ a d fs, x = .ref a ∧ H1 a = some (.ins C d fs) ∧ fs.lookup m = none ∧ t σ H1 fun vs H2 => spS X.K g (x :: vs) H2 Q (WE w σ) := by
  obtain ⟨Z, S, Γ, fp, ofp, P, r, h, q⟩ := h
  refine ⟨Z, S, Γ, fp, ofp, _, r, h, fun x S1 h1 Z1 H1 fp1 vx r1 u1 b1 => ?_⟩
  obtain ⟨⟨n, nm, ws, rfl, e1, e2⟩, h1⟩ := h1
  have b1' := b1
  cases b1 with
  | ref hn =>
    obtain ⟨as, oc, _⟩ := r1.cell e1
    cases oc with
    | @ins _ d _ fs _ as0 k1 k2 =>
      refine ⟨_, d, fs, rfl, k1, k2.miss e2, ht _ _ _ ⟨Z1, S1, Γ, fp1, ofp, _, r1, h1, fun ds S2 h2 Z2 H2 fp2 vs r2 u2 d2 => ?_⟩⟩
      refine ⟨Z2, S2, fp2, _, _, _, r2.st0, .cons (b1'.up u2) d2, h2, fun w2 S3 p3 Z3 H3 fp3 v3 s3 u3 b3 => ?_, fun c S3 p3 Z3 H3 fp3 s3 u3 => ?_⟩
      · have r3 := r2.called s3 u3
        cases w2 with
        | d x => exact q x S3 p3 Z3 H3 fp3 v3 r3 ((u1.trans u2).trans u3) b3
        | own es =>
          obtain ⟨a, xs, rfl, f2, d3, n1, n2, n3⟩ := b3
          have ut := (u1.trans u2).trans u3
          have na : a ∉ ofp := fun m => by
            obtain ⟨o, e⟩ := r2.ownThere a (List.mem_append_right _ m)
            rw [n3] at e
            cases e
          have n4 := (u1.trans u2).there a n3
          exact q _ S3 p3 _ H3 fp3 _ (r3.freeze f2 n1 n2 na (r.ext.there _ n4)) (ut.addF n4 n1) (.lst (SqL.of (show upd Z3.F a (.lst xs) a = _ from upd_same)) (d3.mono (le_frz n1)))
      · exact dx.ok _ _ _ _ _ _ _ _ (r2.called s3 u3) p3
theorem methF_run {E : L2.St → XK} (dx : DX X B w ew) {σ : L2.St} {H : Hp} {Q : VK} (h : liftO X.K B (dMethSF C m g ew te tr) σ H Q) {t : TA} (ht : ∀ σ H Q', liftA X.K B tr σ H Q' → t σ H Q') : liftD X.K B te σ H fun x H1 => ∃ a d fs, x = .ref a ∧ H1 a = some (.ins C d fs) ∧ fs.lookup m = none ∧ t σ H1 fun vs H2 => spS X.K g (x :: vs) H2 Q (WE w σ) := by
  obtain ⟨Z, S, Γ, fp, ofp, P, r, h, q⟩ := h
  refine ⟨Z, S, Γ, fp, ofp, _, r, h, fun x S1 h1 Z1 H1 fp1 vx r1 u1 b1 => ?_⟩
  obtain ⟨⟨n, nm, ws, rfl, e1, e2⟩, h1⟩ := h1
  have b1' := b1
  cases b1 with
  | ref hn =>
    obtain ⟨as, oc, _⟩ := r1.cell e1
    cases oc with
    | @ins _ d _ fs _ as0 k1 k2 =>
      refine ⟨_, d, fs, rfl, k1, k2.miss e2, ht _ _ _ ⟨Z1, S1, Γ, fp1, ofp, _, r1, h1, fun ds S2 h2 Z2 H2 fp2 vs r2 u2 d2 => ?_⟩⟩
      refine ⟨Z2, S2, fp2, _, _, _, r2.st0, .cons (b1'.up u2) d2, h2, fun w2 S3 p3 Z3 H3 fp3 v3 s3 u3 b3 => ?_, fun c S3 p3 Z3 H3 fp3 s3 u3 => ?_⟩
      · have r3 := r2.called s3 u3
        cases w2 with
        | d x => exact False.elim p3
        | own es =>
          obtain ⟨a, xs, rfl, f2, d3, n1, n2, n3⟩ := b3
          have na : a ∉ ofp := fun m => by
            obtain ⟨o, e⟩ := r2.ownThere a (List.mem_append_right _ m)
            rw [n3] at e
            cases e
          exact q _ S3 p3 Z3 H3 fp3 _ _ r3 ((u1.trans u2).trans u3) f2 d3 n1 n2 na ((u1.trans u2).there a n3)
      · exact dx.ok _ _ _ _ _ _ _ _ (r2.called s3 u3) p3
theorem pd_meth (dx : DX X B w ew) (h : HasM X.prog X.w X.K X.mg X.base k C m ps g) (hr : Room k X.A) (he : PD X B o te) (ha : PAD X B (e :: es) tr)
    (hst : starEach (e :: es) X.env = (false, eval e X.env) :: starEach es X.env := by rfl) (hpl : (backTo pos (starEach es X.env)).any (·.1) = false := by rfl) {pl : Sem Bool}
    (ht : eval (.Call (.Attribute o m apos) (e :: es) [] pos) X.env = (do
      let ov ← eval o X.env
      standAt apos.atName
      let (f, first) ← holding [ov] (getMethod ov m pl)
      callWith pos f first (backTo pos (starEach (e :: es) X.env)) (backToKw pos (keywordEach [] X.env))) := by rfl) :
    PD X B (.Call (.Attribute o m apos) (e :: es) [] pos) (dMethS C m g ew te tr) := by
  obtain ⟨f, fd, h1, h2, h3⟩ := h.ex
  exact PE.weak (pe_methS he h.cl h1 h3 hr h2 (fun σ => passAt dx.tk σ) ha hst hpl ht) fun σ H Q hh => meth_run (E := WE w) dx hh fun _ _ _ z => z
theorem pf_meth (dx : DX X B w ew) (h : HasM X.prog X.w X.K X.mg X.base k C m ps g) (hr : Room k X.A) (he : PD X B o te) (ha : PAD X B (e :: es) tr)
    (hst : starEach (e :: es) X.env = (false, eval e X.env) :: starEach es X.env := by rfl) (hpl : (backTo pos (starEach es X.env)).any (·.1) = false := by rfl) {pl : Sem Bool}
    (ht : eval (.Call (.Attribute o m apos) (e :: es) [] pos) X.env = (do
      let ov ← eval o X.env
      standAt apos.atName
      let (f, first) ← holding [ov] (getMethod ov m pl)
      callWith pos f first (backTo pos (starEach (e :: es) X.env)) (backToKw pos (keywordEach [] X.env))) := by rfl) :
    PF X B (.Call (.Attribute o m apos) (e :: es) [] pos) (dMethSF C m g ew te tr) := by
  obtain ⟨f, fd, h1, h2, h3⟩ := h.ex
  exact PE.weak (pe_methS he h.cl h1 h3 hr h2 (fun σ => passAt dx.tk σ) ha hst hpl ht) fun σ H Q hh => methF_run (E := WE w) dx hh fun _ _ _ z => z
theorem pd_meth0 (dx : DX X B w ew) (h : HasM X.prog X.w X.K X.mg X.base k C m ps g) (hr : Room k X.A) (he : PD X B o te) {pl : Sem Bool}
    (ht : eval (.Call (.Attribute o m apos) [] [] pos) X.env = (do
      let ov ← eval o X.env
      standAt apos.atName
      let (f, first) ← holding [ov] (getMethod ov m pl)
      callWith pos f first (backTo pos (starEach [] X.env)) (backToKw pos (keywordEach [] X.env))) := by rfl) :
    PD X B (.Call (.Attribute o m apos) [] [] pos) (dMethS C m g ew te dNil) := by
  obtain ⟨f, fd, h1, h2, h3⟩ := h.ex
  exact PE.weak (pe_methS0 he h.cl h1 h3 hr h2 (fun σ => passAt dx.tk σ) ht) fun σ H Q hh => meth_run (E := WE w) (t := fun _ H Q => Q [] H) dx hh fun _ _ _ h => by
    obtain ⟨Z, S, Γ, fp, ofp, P, r, h, q⟩ := h
    exact q _ _ h Z _ fp [] r (.refl _ _ _) .nil
def dMakeS (C : Addr) (g : DSpec) (ew : EW) (tr : DA) : DE := fun Γ S Q => tr Γ S fun ds S1 => g (.ref S1.length :: ds) (S1 ++ [.ins C [] []]) (fun w S2 => w = .d .non ∧ Q (.ref S1.length) S2) fun c S2 => ew c Γ S2
theorem pd_make (dx : DX X B w ew) (h : HasI X.prog X.w X.K X.mg X.base k x C ps g) (hr : Room (k + 1) X.A) (ha : PAD X B (e :: es) tr)
    (hg : Gl X x := by rfl) (hdb : (x == ("__debug__" : Str)) = false := by decide) (he : starEach (e :: es) X.env = (false, eval e X.env) :: starEach es X.env := by rfl) (hpl : (backTo pos (starEach es X.env)).any (·.1) = false := by rfl) :
    PD X B (.Call (.Name x p) (e :: es) [] pos) (dMakeS C g ew tr) := by
  obtain ⟨f, fd, M, h2, h3⟩ := h.ex
  refine ⟨fun pins s σ H Q I hh => ?_⟩
  obtain ⟨Z, S, Γ, fp, ofp, P, r, hh, q⟩ := hh
  refine wpAny_Call_Name_kw (ld_glob I hg h.gm ?_ hdb)
  refine PySem.W.callWith_K (h₀ := X.base) I.ok.mod.kin M.kp (thn (ha.run pos pins s σ H _ I ⟨Z, S, Γ, fp, ofp, _, r, hh, fun ds S1 h1 Z1 H1 fp1 vs r1 u1 d1 => ?_⟩) fun us s1 ⟨vs, H1, I1, rv, qq⟩ => ⟨I1.kIn, run_makeS M h3 hr h2 (passAt dx.tk σ) I1 rv qq⟩) he hpl
  intro y dy ny ndy ne
  have r2 := r1.grow (p := dy) (o := .own y) ndy
  have ny2 : upd H1 dy (.own y) y = none := by rw [upd_ne (Ne.symm ne)]; exact ny
  have r3 := r2.box (p := y) (ho := .ins C dy []) (o := .ins C [] []) ny2 fun Z' H' _ e => .ins e .nil
  have up : Up Z1 H1 fp1 (Z1.more y) (upd (upd H1 dy (.own y)) y (.ins C dy [])) (fp1 ++ [y]) := (Up.grow ndy).trans (Up.box ny2)
  have hk := r1.kk
  have dvn : DV X.K (Z1.more y) (.ref y) (.ref S1.length) := by
    have : (Z1.more y).ρ S1.length = y := if_pos hk.symm
    have d := DV.ref (K := X.K) (Z := Z1.more y) (n := S1.length) (by show _ < Z1.k + 1; omega)
    rw [this] at d
    exact d
  refine ⟨Z1.more y, S1 ++ [.ins C [] []], fp1 ++ [y], .ref S1.length :: ds, _, _, r3.st0, .cons dvn (d1.up up), h1, fun w2 S2 p2 Z2 H2 fp2 v2 s2 u2 b2 => ?_, fun c S2 p2 Z2 H2 fp2 s2 u2 => dx.ok _ _ _ _ _ _ _ _ (r3.called s2 u2) p2⟩
  obtain ⟨rfl, p2⟩ := p2
  cases b2
  exact ⟨rfl, q _ S2 p2 Z2 H2 fp2 _ (r3.called s2 u2) ((u1.trans up).trans u2) (dvn.up u2)⟩
end
end DL
namespace DL
open PySem PySem.Spec PyProof.Rows L2
/-! ### lists as cells -/
theorem upd_self {H : Hp} {p : Addr} {o : HO} (h : H p = some o) : upd H p o = H := by
  funext b
  by_cases z : b = p
  · rw [z, upd_same, h]
  · rw [upd_ne z]
section
variable {X : Cx} {B : Bs} {a b c e o elt : Expr} {te to' ti : DE} {to : DA} {tt : DT} {pos : Pos} {ts : DS}
def dBox (to : DA) : DE := fun Γ S Q => to Γ S fun ds S1 => Q (.ref S1.length) (S1 ++ [.lst ds])
theorem pd_box (h : PF X B e to) : PD X B e (dBox to) := PE.weak h fun σ H Q h => by
  obtain ⟨Z, S, Γ, fp, ofp, P, r, h, q⟩ := h
  refine ⟨Z, S, Γ, fp, ofp, _, r, h, fun ds S1 p1 Z1 H1 fp1 p us r1 u1 e1 d1 n1 n2 n3 n4 => ?_⟩
  have r2 := r1.boxG (o := .lst ds) (ho := .lst us) n2 n3 n1 (r.ext.there _ n4) fun Z' H' le g => .lst g (d1.mono le)
  rw [upd_self e1] at r2
  have hk := r1.kk
  have le := le_more (Z := Z1) (p := p)
  refine q _ _ p1 _ _ _ _ r2 ⟨u1.le.trans le, u1.keep, fun a m => ?_, u1.there, u1.frz⟩ ?_
  · rcases List.mem_append.mp m with m | m
    · exact u1.new a m
    · rw [List.mem_singleton.mp m]
      exact .inr n4
  · have : (Z1.more p).ρ S1.length = p := if_pos hk.symm
    have d := DV.ref (K := X.K) (Z := Z1.more p) (n := S1.length) (by show _ < Z1.k + 1; omega)
    rw [this] at d
    exact d
/-- the list of a cell -/
def isL (S : Sto) (x : D) : Prop := ∃ m ds, x = .ref m ∧ cellAt S m = some (.lst ds)
def dAppC (to' te : DE) : DS := fun DD Γ S => to' Γ S fun x S1 => isL S1 x ∧ te Γ S1 fun y S2 => ∃ m ds, x = .ref m ∧ cellAt S2 m = some (.lst ds) ∧ sz (ds.length + 1) ∧ DD.nx Γ (S2.set m (.lst (ds ++ [y])))
theorem ps_dappC {p2 p3 : Pos} (ho : PD X B o to') (he : PD X B e te)
    (h : ∀ {to2 te2 : TE}, PE X o to2 → PE X e te2 → PS X (.Expr (.Call (.Attribute o "append" p2) [e] [] p3) pos) (tDrop (tBM X.K "list" rAppend to2 (tCons te2 tNil))) := by
      exact fun h h2 => ps_expr (pe_bm PySem.F.plainAttrs_list PySem.F.slot_list_append PySem.F.type_list_append mt_append h (pa_cons h2 pa_nil))) :
    PSD X B (.Expr (.Call (.Attribute o "append" p2) [e] [] p3) pos) (dAppC to' te) := PS.weak (h ho he) fun Dn σ H h => by
  obtain ⟨Z, S, Γ, fp, ofp, DD, r, h, ok⟩ := h
  refine ⟨Z, S, Γ, fp, ofp, _, r, h, fun x S1 h1 Z1 H1 fp1 v r1 u1 b1 => ?_⟩
  obtain ⟨⟨m, ds, rfl, e1⟩, h1⟩ := h1
  cases b1 with
  | ref hn =>
    obtain ⟨as, oc, _⟩ := r1.cell e1
    cases oc with
    | lst k1 k2 =>
      refine ⟨.inl ⟨rfl, _, SqL.of k1⟩, ?_⟩
      refine ⟨Z1, S1, Γ, fp1, ofp, _, r1, h1, fun y S2 h2 Z2 H2 fp2 vy r2 u2 b2 => ?_⟩
      obtain ⟨m', ds2, em, e2, hz, h2⟩ := h2
      cases em
      obtain ⟨as2, oc2, _⟩ := r2.cell e2
      cases oc2 with
      | @lst xs2 _ g1 g2 =>
        have er := u2.le.r m hn
        rw [er] at g1
        refine ⟨_, xs2, vy, rfl, rfl, g1, ?_, ?_⟩
        · rw [g2.length]
          exact Nat.lt_of_lt_of_le (Nat.lt_succ_self _) hz.ok
        · have r3 := r2.put (o' := .lst (ds2 ++ [y])) (ho := .lst (xs2 ++ [vy])) e2 fun as oc => by
            cases oc with
            | lst k1' k2' =>
              rw [er, g1] at k1'
              cases k1'
              exact ⟨⟨[], rfl⟩, fun H' g _ _ => .lst g (k2'.append (.cons b2 .nil))⟩
          rw [er] at r3
          exact ok.nx _ _ _ _ _ _ _ r3 h2
/-! ### walks over them -/
def ItOkC (K : PySem.W.Frag) (B : Bs) (Z0 : Fz) (J : It) (C : Sto → Prop) (xs : List D) : Prop := ∀ (i : Nat) (Z : Fz) (S : Sto) (Γ : Gm) (σ : L2.St) (H : Hp) (fp ofp : List Addr), R K B Z S Γ σ H fp ofp → Z0.le Z → C S →
  (∀ x, xs[i]? = some x → J.go i H ∧ ∀ v H', J.yld i H v H' → ∃ Z', R K B Z' S Γ σ H' fp ofp ∧ Up Z H fp Z' H' fp ∧ DV K Z' v x) ∧ (xs[i]? = none → J.stop i H)
def liftIC (K : PySem.W.Frag) (B : Bs) (ti : DE) : TI := fun σ H Rr => ∃ Z S Γ fp ofp P, R K B Z S Γ σ H fp ofp ∧ ti Γ S P ∧
  ∀ x S', P x S' → ∀ Z' H' fp', R K B Z' S' Γ σ H' fp' ofp → Up Z H fp Z' H' fp' → ∀ J, (∀ xs, ItOkC K B Z' J (fun S => der S x = .lst xs) xs) → Rr J H'
abbrev PIC (X : Cx) (B : Bs) (tg iter : Expr) (ti : DE) : Prop := PI X tg iter (liftIC X.K B ti)
theorem it_cell {K : PySem.W.Frag} {B : Bs} {Z : Fz} {a : Addr} {x : D} (dv : DV K Z (.ref a) x) (xs : List D) : ItOkC K B Z (Itl K a) (fun S => der S x = .lst xs) xs := fun i Z1 S Γ σ H fp ofp r l hC => by
  have dv1 := dv.mono l
  have bq : BQ K Z1 S σ Γ (.ref a) (der S x) := BV.der (.inl dv1)
  rw [hC] at bq
  obtain ⟨a', us, ea, hH, d⟩ := bq.list r
  cases ea
  refine ⟨fun x e => ?_, fun e => ⟨us, hH, ?_⟩⟩
  · obtain ⟨v, e1, dv⟩ := d.getD e
    refine ⟨⟨us, v, hH, e1⟩, fun w H' y => ?_⟩
    obtain ⟨rfl, y⟩ := y
    have e2 := y us hH
    rw [e1] at e2
    cases e2
    exact ⟨Z1, r, .refl _ _ _, dv⟩
  · rw [d.length]
    exact List.getElem?_eq_none_iff.mp e
/-- what is walked is a list now -/
def dWlC (te : DE) : DE := fun Γ S Q => te Γ S fun x S1 => (∃ xs, der S1 x = .lst xs) ∧ Q x S1
theorem pi_dlistC {tg : Expr} (he : PD X B e te) : PIC X B tg e (dWlC te) := PI.weak (pi_list he) fun σ H Rr h => by
  obtain ⟨Z, S, Γ, fp, ofp, P, r, h, q⟩ := h
  refine ⟨Z, S, Γ, fp, ofp, _, r, h, fun d S1 p1 Z1 H1 fp1 v1 r1 l1 dv1 => ?_⟩
  obtain ⟨⟨xs, ex⟩, p1⟩ := p1
  have bq : BQ X.K Z1 S1 σ Γ v1 (der S1 d) := BV.der (.inl dv1)
  rw [ex] at bq
  obtain ⟨a, us, rfl, hH, _⟩ := bq.list r1
  exact ⟨a, rfl, ⟨us, hH⟩, q _ S1 p1 Z1 H1 fp1 r1 l1 _ (it_cell dv1)⟩
def forLC (C : Sto → Prop) (dg : DG) (body : DS) : List D → DS
  | [], DD, Γ, S => C S ∧ DD.nx Γ S
  | x :: r, DD, Γ, S => C S ∧ dg x Γ fun Γ1 => body { DD with nx := forLC C dg body r DD, ct := forLC C dg body r DD, bk := DD.nx } Γ1 S
def dForC (ti : DE) (dg : DG) (body : DS) : DS := fun DD Γ S => ti Γ S fun x S1 => ∃ xs, der S1 x = .lst xs ∧ forLC (fun S => der S x = .lst xs) dg body xs DD Γ S1
theorem ps_dforC {iter tg : Expr} {body : List Stmt} {dg : DG} (hp : PassesOwn (model X.prog X.w) X.A X.env X.xe) (hc : X.calm = true) (hi : PIC X B tg iter ti) (hg : PGD X tg dg) (hb : ∀ B', B.up B' → PSsD X B' body ts)
    (k : ∀ {wi' : TI} {g' : TG} {tb' : TS}, PassesOwn (model X.prog X.w) X.A X.env X.xe → X.calm = true → PI X tg iter wi' → PG X tg g' → PSs X body tb' → PS X (.For tg iter body [] pos) (tFor wi' g' tb') := by exact fun h1 h2 h h' h'' => ps_for h1 h2 h h' h'') :
    PSD X B (.For tg iter body [] pos) (dForC ti dg ts) := by
  obtain ⟨g, p, o⟩ := hg
  refine ⟨fun pins s σ H Dn I h => ?_⟩
  refine (k (tb' := fun Dn' σ' H' => ∃ B', B.up B' ∧ liftS X.K B' ts Dn' σ' H') hp hc hi p ⟨fun pins s σ H D I ⟨B', u, h⟩ => (hb B' u).run pins s σ H D I h⟩).run pins s σ H Dn I ?_
  obtain ⟨Z, S, Γ, fp, ofp, DD, r, h, ok⟩ := h
  refine ⟨Z, S, Γ, fp, ofp, _, r, h, fun x0 S1 p1 Z1 H1 fp1 r1 l1 J hJ => ?_⟩
  obtain ⟨xs, _, p1⟩ := p1
  refine ⟨fun i m σ' H' => m = xs.length - i ∧ i ≤ xs.length ∧ ∃ Z' S' Γ' fp' ofp', R X.K B Z' S' Γ' σ' H' fp' ofp' ∧ Z1.le Z' ∧ forLC (fun S => der S x0 = .lst xs) dg ts (xs.drop i) DD Γ' S',
    ⟨_, rfl, Nat.zero_le _, Z1, S1, Γ, fp1, ofp, r1, .refl _, p1⟩, ?_⟩
  rintro i m σ' H' ⟨rfl, hi, Z', S', Γ', fp', ofp', r', l', q'⟩
  have hC : der S' x0 = .lst xs := by
    cases ed : xs.drop i with
    | nil => rw [ed] at q'; exact q'.1
    | cons a b => rw [ed] at q'; exact q'.1
  obtain ⟨yes, no⟩ := hJ xs i Z' S' Γ' σ' H' fp' ofp' r' l' hC
  by_cases hlt : i < xs.length
  · have e : xs.drop i = xs[i] :: xs.drop (i + 1) := List.drop_eq_getElem_cons hlt
    rw [e] at q'
    have q' := q'.2
    obtain ⟨go, yld⟩ := yes xs[i] (List.getElem?_eq_getElem hlt)
    refine .inr ⟨go, fun σ2 H2 => ∃ Z' S' Γ' fp' ofp', R X.K B Z' S' Γ' σ2 H2 fp' ofp' ∧ Z1.le Z' ∧ forLC (fun S => der S x0 = .lst xs) dg ts (xs.drop (i + 1)) DD Γ' S', fun σ2 H2 n => ⟨xs.length - (i + 1), by omega, rfl, hlt, n⟩, fun v H2 y => ?_⟩
    obtain ⟨Z2, r2, l2, dv⟩ := yld v H2 y
    have up2 : B.up (B.at Z2) := Bs.at_up r2.ext.fl
    refine o (B.at Z2) (r2.raise (.refl _)) dv q' fun Γ3 p3 σ3 Z3 ofp3 r3 l3 => ?_
    refine ⟨B.at Z2, up2, Z3, S', Γ3, fp', ofp3, _, r3, p3, ?_⟩
    have ll : Z1.le Z2 := l'.trans l2.le
    exact ⟨fun Z4 S4 Γ4 σ4 H4 fp4 ofp4 r4 n4 => ⟨Z4, S4, Γ4, fp4, ofp4, r4.lower up2, ll.trans r4.ext.fl, n4⟩, fun Z4 S4 Γ4 σ4 H4 fp4 ofp4 r4 n4 => ok.nx Z4 S4 Γ4 σ4 H4 fp4 ofp4 (r4.lower up2) n4,
      fun Z4 S4 Γ4 σ4 H4 fp4 ofp4 r4 n4 => ⟨Z4, S4, Γ4, fp4, ofp4, r4.lower up2, ll.trans r4.ext.fl, n4⟩, fun Z4 S4 Γ4 σ4 H4 fp4 ofp4 w4 v4 r4 b4 n4 => ok.rt Z4 S4 Γ4 σ4 H4 fp4 ofp4 w4 v4 (r4.lower up2) (by cases w4 <;> exact b4) n4⟩
  · have e : xs.drop i = [] := List.drop_eq_nil_of_le (by omega)
    rw [e] at q'
    have q' := q'.2
    exact .inl ⟨no (List.getElem?_eq_none (by omega)), ok.nx _ _ _ _ _ _ _ r' q'⟩
def compLC (C : Sto → Prop) (dg : DG) (t : DT) (te : DE) : List D → Gm → List D → Sto → (List D → Sto → Prop) → Prop
  | [], _, acc, S, Q => C S ∧ Q acc S
  | x :: r, Γ, acc, S, Q => C S ∧ dg x Γ fun Γ1 => t Γ1 S fun b S1 => (b = true → te Γ1 S1 fun y S2 => sz (acc.length + 1) ∧ compLC C dg t te r Γ (acc ++ [y]) S2 Q) ∧
    (b = false → compLC C dg t te r Γ acc S1 Q)
def dCompC (ti : DE) (dg : DG) (t : DT) (te : DE) (vs : List Nat) : DA := fun Γ S Q => ti Γ S fun x S1 => ∃ xs, der S1 x = .lst xs ∧ compLC (fun S => der S x = .lst xs) dg t te xs (wipeG Γ vs) [] S1 Q
theorem pf_compC {K : PySem.W.Frag} {vs : List Nat} {ti : DE} {g : TG} {dg : DG} (gc : GComp K B vs g dg)
    (σ : L2.St) (H : Hp) (Q : VK) (h : liftO K B (dCompC ti dg tt te vs) σ H Q) : tLc (liftIC K B ti) g (liftT K B tt) (liftD K B te) vs σ H Q := by
  obtain ⟨Z, S, Γ, fp, ofp, P, r, h, q⟩ := h
  refine ⟨Z, S, Γ, fp, ofp, _, r, h, fun x0 S1 p1 Z1 H1 fp1 r1 l1 J hJ => fun Dl hD => ?_⟩
  obtain ⟨xs, _, p1⟩ := p1
  obtain ⟨nd1, nd2, nd3, nd4⟩ := r1.fresh hD
  obtain ⟨o0, r0, s0⟩ := r1.wipe vs
  have W0 : Up Z1 H1 fp1 Z1 (upd H1 Dl (.lst [])) fp1 := Up.grow hD
  refine ⟨fun i m H' => m = xs.length - i ∧ i ≤ xs.length ∧ ∃ Z' S' fp' ofp' acc accV, R K B Z' S' (wipeG Γ vs) (L2.wipe σ vs) H' fp' ofp' ∧ Up Z1 H1 fp1 Z' H' fp' ∧
      H' Dl = some (.lst accV) ∧ DVs K Z' accV acc ∧ Dl ∉ fp' ∧ Dl ∉ ofp' ∧ Z'.F Dl = none ∧ compLC (fun S => der S x0 = .lst xs) dg tt te (xs.drop i) (wipeG Γ vs) acc S' P,
    ⟨_, rfl, Nat.zero_le _, Z1, S1, fp1, o0, [], [], r0.grow hD, W0, upd_same, .nil, nd1, fun m => nd2 (s0 _ m), nd3, p1⟩, ?_⟩
  rintro i m H' ⟨rfl, hi, Z', S', fp', ofp', acc, accV, r', u', eD, dD, n1, n2, n3, c'⟩
  have hC : der S' x0 = .lst xs := by
    cases ed : xs.drop i with
    | nil => rw [ed] at c'; exact c'.1
    | cons a b => rw [ed] at c'; exact c'.1
  obtain ⟨yes, no⟩ := hJ xs i Z' S' _ _ H' fp' ofp' r' u'.le hC
  by_cases hlt : i < xs.length
  · have e : xs.drop i = xs[i] :: xs.drop (i + 1) := List.drop_eq_getElem_cons hlt
    rw [e] at c'
    have c' := c'.2
    obtain ⟨go, yld⟩ := yes xs[i] (List.getElem?_eq_getElem hlt)
    refine .inr ⟨go, fun H2 => ∃ Z' S' fp' ofp' acc accV, R K B Z' S' (wipeG Γ vs) (L2.wipe σ vs) H2 fp' ofp' ∧ Up Z1 H1 fp1 Z' H2 fp' ∧
      H2 Dl = some (.lst accV) ∧ DVs K Z' accV acc ∧ Dl ∉ fp' ∧ Dl ∉ ofp' ∧ Z'.F Dl = none ∧ compLC (fun S => der S x0 = .lst xs) dg tt te (xs.drop (i + 1)) (wipeG Γ vs) acc S' P, fun H2 n => ⟨xs.length - (i + 1), by omega, rfl, hlt, n⟩, fun v H2 y => ?_⟩
    obtain ⟨Z2, r2, u2, dv⟩ := yld v H2 y
    refine gc r2 dv c' fun Γ3 p3 σ3 ofp3 r3 w3 w3' sub3 => ⟨w3, ?_⟩
    refine ⟨Z2, S', Γ3, fp', ofp3, _, r3, p3, fun k S4 h4 Z4 H4 fp4 r4 u4 => ?_⟩
    have frzD : ∀ {Zb : Fz} {Hb : Hp} {fpb : List Addr}, Up Z' H' fp' Zb Hb fpb → Zb.F Dl = none := fun {Zb Hb fpb} u => by
      cases qq : Zb.F Dl with
      | none => rfl
      | some o =>
        rcases u.frz Dl n3 (by rw [qq]; simp) with z | z
        · rw [z] at eD
          cases eD
        · exact absurd z n1
    have nfp : ∀ {Zb : Fz} {Hb : Hp} {fpb : List Addr}, Up Z' H' fp' Zb Hb fpb → Dl ∉ fpb := fun {Zb Hb fpb} u m => by
      rcases u.new Dl m with z | z
      · exact n1 z
      · rw [z] at eD
        cases eD
    cases k with
    | true =>
      refine iteT ?_
      refine ⟨Z4, S4, Γ3, fp4, ofp3, _, r4, h4.1 rfl, fun y5 S5 h5 Z5 H5 fp5 v5 r5 u5 dv5 => ?_⟩
      have uu := (u2.trans u4).trans u5
      have e5 := uu.keep Dl _ eD n1
      obtain ⟨hz, h5⟩ := h5
      refine ⟨accV, e5, by rw [dD.length]; exact Nat.lt_of_lt_of_le (Nat.lt_succ_self _) hz.ok, ?_⟩
      obtain ⟨o6, r6, s6⟩ := r5.wipe vs
      rw [w3, w3'] at r6
      have no6 : Dl ∉ o6 := fun m => n2 (sub3 _ (s6 _ m))
      refine ⟨Z5, S5, fp5, o6, acc ++ [y5], accV ++ [v5], r6.other (nfp uu) no6 (frzD uu) (r1.ext.there Dl hD), ?_, upd_same, (dD.mono uu.le).append (.cons dv5 .nil), nfp uu, no6, frzD uu, h5⟩
      have ut := u'.trans uu
      refine ⟨ut.le, fun a o ea na => ?_, ut.new, fun a ea => ?_, ut.frz⟩
      · rw [upd_ne (ne_of_none ea hD)]
        exact ut.keep a o ea na
      · by_cases z : a = Dl
        · rw [z]
          exact hD
        · rw [upd_ne z] at ea
          exact ut.there a ea
    | false =>
      refine iteF ?_
      have uu := u2.trans u4
      have e5 := uu.keep Dl _ eD n1
      obtain ⟨o6, r6, s6⟩ := r4.wipe vs
      rw [w3, w3'] at r6
      exact ⟨Z4, S4, fp4, o6, acc, accV, r6, u'.trans uu, e5, dD.mono uu.le, nfp uu, fun m => n2 (sub3 _ (s6 _ m)), frzD uu, h4.2 rfl⟩
  · have e : xs.drop i = [] := List.drop_eq_nil_of_le (by omega)
    rw [e] at c'
    have c' := c'.2
    refine .inl ⟨no (List.getElem?_eq_none (by omega)), ?_⟩
    exact q acc S' c' Z' H' fp' Dl accV (r1.back r' u') (l1.trans u') eD dD n3 n1 nd2 (l1.there _ hD)
theorem pf_lcC {elt tg iter : Expr} {ifs : List Expr} {scope : Scope} {own : List (Str × Nat)} {ti : DE} {g : TG} {dg : DG} (hc : X.calm = true) (hN : X.N.Nodup) (hi : PIC X B tg iter ti) (ok : BlkOk X.N X.env.scope scope own)
    (hg : ∀ (s : Shared) (H : Hp) (C : Addr) (cl : List (Str × Addr)) (fp : List Addr), PG (X.blk s H scope (compEnvC scope cl C X.env) fp) tg g) (gc : GComp X.K B (own.map (·.2)) g dg)
    (ht : ∀ (s : Shared) (H : Hp) (C : Addr) (cl : List (Str × Addr)) (fp : List Addr), PTs (X.blk s H scope (compEnvC scope cl C X.env) fp) ifs (liftT X.K B tt))
    (he : ∀ (s : Shared) (H : Hp) (C : Addr) (cl : List (Str × Addr)) (fp : List Addr), PE (X.blk s H scope (compEnvC scope cl C X.env) fp) elt (liftD X.K B te))
    (k : ∀ {wi' : TI} {g' : TG} {tt' : TT} {te' : TE}, X.calm = true → X.N.Nodup → BlkOk X.N X.env.scope scope own → PI X tg iter wi' → (∀ (s : Shared) (H : Hp) (C : Addr) (cl : List (Str × Addr)) (fp : List Addr), PG (X.blk s H scope (compEnvC scope cl C X.env) fp) tg g') →
      (∀ (s : Shared) (H : Hp) (C : Addr) (cl : List (Str × Addr)) (fp : List Addr), PTs (X.blk s H scope (compEnvC scope cl C X.env) fp) ifs tt') → (∀ (s : Shared) (H : Hp) (C : Addr) (cl : List (Str × Addr)) (fp : List Addr), PE (X.blk s H scope (compEnvC scope cl C X.env) fp) elt te') →
      PE X (.ListComp elt [⟨tg, iter, ifs, 0⟩] scope pos) (tLc wi' g' tt' te' (own.map (·.2))) := by exact fun h1 h2 h3 a b c d => pe_lc h1 h2 a h3 b c d) :
    PF X B (.ListComp elt [⟨tg, iter, ifs, 0⟩] scope pos) (dCompC ti dg tt te (own.map (·.2))) := PE.weak (k hc hN ok hi hg ht he) (pf_compC gc)
end
end DL
namespace DL
open PySem PySem.Spec PyProof.Rows L2
/-! ### methods, by what the top has written -/
structure RawM (K : PySem.W.Frag) (C : Addr) (m q : Str) (st : Stmt) (ps : List Str) : Prop where
  cl : Cls K C
  ex : ∃ (f : Addr) (fd : FuncData), Meth K C m f ∧ Binds K fd ps [] ∧ Fun K m q st f fd
structure RawI (K : PySem.W.Frag) (mg : Str → Option Value) (x : Str) (C : Addr) (q : Str) (st : Stmt) (ps : List Str) : Prop where
  gm : mg x = some (.ref C)
  ex : ∃ (f : Addr) (fd : FuncData), Mk K C f ∧ Binds K fd ps [] ∧ Fun K "__init__" q st f fd
section
variable {P : Program} {wd : World} {K : PySem.W.Frag} {mg : Str → Option Value} {base : Heap} {N ps : List Str} {j : Nat} {st : Stmt} {g : DSpec} {x m q : Str} {C : Addr}
theorem hasm_ok (r : RawM K C m q st ps) (Sc : FnScope N ps (defScope st)) (len : ∀ ds S P EP, g ds S P EP → ds.length = ps.length)
    (body : ∀ (f : Addr) (cdv : Value) (A : Around) (outer : List Env) (s : Shared) (H : Hp) (E : XK) (B : Bs) (P0 : W → Sto → Prop) (EP : Value → Sto → Prop) (ds : List D) (S : Sto), Room j (A.deeper (envOfC q (defScope st) s.heap.objs.size f cdv)) →
      DX (cxOf (L2.CX P wd) P wd K mg base N q (defScope st) f cdv A outer s H E) B (fun cls d _ H => E cls d H) (fun c _ S => EP c S) → g ds S P0 EP →
      ∃ ts, PSsD (cxOf (L2.CX P wd) P wd K mg base N q (defScope st) f cdv A outer s H E) B (defBody st) ts ∧ ts { nx := fun _ S' => P0 (.d .non) S', rt := P0 } (startG N.length ds) S) :
    HasM P wd K mg base (j + 1) C m ps g := by
  obtain ⟨f, fd, h1, h2, h3⟩ := r.ex
  exact ⟨r.cl, f, fd, h1, h2, fun_ok h3 Sc len fun cdv A outer s H E B P0 EP ds S => body f cdv A outer s H E B P0 EP ds S⟩
theorem hasi_ok (r : RawI K mg x C q st ps) (Sc : FnScope N ps (defScope st)) (len : ∀ ds S P EP, g ds S P EP → ds.length = ps.length)
    (body : ∀ (f : Addr) (cdv : Value) (A : Around) (outer : List Env) (s : Shared) (H : Hp) (E : XK) (B : Bs) (P0 : W → Sto → Prop) (EP : Value → Sto → Prop) (ds : List D) (S : Sto), Room j (A.deeper (envOfC q (defScope st) s.heap.objs.size f cdv)) →
      DX (cxOf (L2.CX P wd) P wd K mg base N q (defScope st) f cdv A outer s H E) B (fun cls d _ H => E cls d H) (fun c _ S => EP c S) → g ds S P0 EP →
      ∃ ts, PSsD (cxOf (L2.CX P wd) P wd K mg base N q (defScope st) f cdv A outer s H E) B (defBody st) ts ∧ ts { nx := fun _ S' => P0 (.d .non) S', rt := P0 } (startG N.length ds) S) :
    HasI P wd K mg base (j + 1) x C ps g := by
  obtain ⟨f, fd, h1, h2, h3⟩ := r.ex
  exact ⟨r.gm, f, fd, h1, h2, fun_ok h3 Sc len fun cdv A outer s H E B P0 EP ds S => body f cdv A outer s H E B P0 EP ds S⟩
theorem rawm_mk {f : Addr} {oc : Value} {od an : Option Addr} {osl : Array (Option Value)} {kV doc pm cdv ct : Value} (c0 : Cls K C)
    (a : PySem.W.findIn K (.ref C) m = some (some (.ref f))) (i : PySem.W.isFn K (.ref f) = true) (l : K.lookup f = some ⟨oc, od, .func (PySem.W.fnOf m q (defArgs st) (defBody st) (defScope st) .none kV doc pm an cdv ct), osl⟩) (c : PySem.W.codeIn K cdv q = true) (k : PySem.W.keepIn K (.ref f) = true)
    (hb : ∀ (kV doc pm : Value) (an : Option Addr) (cdv ct : Value) (us : List Value), us.length = ps.length → bindArgs (PySem.W.fnOf m q (defArgs st) (defBody st) (defScope st) .none kV doc pm an cdv ct) ⟨us, []⟩ = pure (ps.zip us)) : RawM K C m q st ps :=
  ⟨c0, f, _, ⟨a, i, k⟩, (fun_mk l c k).binds hb, fun_mk l c k⟩
theorem rawi_mk {h : Heap} {f : Addr} {oc : Value} {od an : Option Addr} {osl : Array (Option Value)} {kV doc pm cdv ct : Value} (X : K.In h) (G : h.Ns mainGlobals mg)
    (n : PySem.W.nsIn K mainGlobals x = some (some (.ref C))) (mk : PySem.W.makesIn K C = true) (kc : PySem.W.keepIn K (.ref C) = true)
    (a : PySem.W.findIn K (.ref C) "__init__" = some (some (.ref f))) (i : PySem.W.isFn K (.ref f) = true) (l : K.lookup f = some ⟨oc, od, .func (PySem.W.fnOf "__init__" q (defArgs st) (defBody st) (defScope st) .none kV doc pm an cdv ct), osl⟩) (c : PySem.W.codeIn K cdv q = true) (k : PySem.W.keepIn K (.ref f) = true)
    (hb : ∀ (kV doc pm : Value) (an : Option Addr) (cdv ct : Value) (us : List Value), us.length = ps.length → bindArgs (PySem.W.fnOf "__init__" q (defArgs st) (defBody st) (defScope st) .none kV doc pm an cdv ct) ⟨us, []⟩ = pure (ps.zip us)) : RawI K mg x C q st ps :=
  ⟨PySem.W.mg_of X G n, f, _, ⟨mk, a, i, kc⟩, (fun_mk l c k).binds hb, fun_mk l c k⟩
end
end DL
namespace DL
open PySem PySem.Spec PyProof.Rows L2
/-! ### list * int -/
section
variable {X : Cx} {B : Bs}
def rRepL (K : PySem.W.Frag) : R2 := fun x y H Q => ∃ l k xs, x = .ref l ∧ y = .int k ∧ SqL K H l xs ∧ 0 ≤ k ∧ k ≤ 1000 ∧ xs.length ≤ 1000 ∧ ∀ p, H p = none → Q (.ref p) (upd H p (.lst (List.replicate k.toNat xs).flatten))
theorem Vals.repL {vs : List V} {us : List Value} (h : Vals vs us) : ∀ n, Vals (List.replicate n vs).flatten (List.replicate n us).flatten
  | 0 => .nil
  | n + 1 => by
    rw [List.replicate_succ, List.replicate_succ, List.flatten_cons, List.flatten_cons]
    exact h.append (Vals.repL h n)
theorem op_repL : OpR X (binaryOp .Mult) (rRepL X.K) := by
  intro pins s σ H x y v u Q I rx ry h
  obtain ⟨l, k, xs, rfl, rfl, hH, h1, h2, hz, q⟩ := h
  cases rx
  obtain ⟨t, rfl⟩ := ry
  obtain ⟨its, r, g1, _⟩ := I.list hH
  obtain ⟨⟨cls, dd, data, sl⟩, n, ho, hc, hd0, hd⟩ := g1
  simp only at hc hd
  subst hc hd
  have hle : its.length = xs.length := r.length.symm
  have hm : its.toArray.size * k.toNat ≤ 1000000 := by
    rw [List.size_toArray, hle]
    have a1 : xs.length * k.toNat ≤ 1000 * 1000 := Nat.mul_le_mul hz (by omega)
    omega
  refine wpAny_binaryOp_repeat_ref (T := "list") (U := "int") (by decide) ⟨_, ho, rfl⟩ (fun s' => typeIs_int s' k t) noFill_list_mul F.fills_int_mul F.slot_int_rmul repeat_list F.slot_int_index.lookup
    (call_meets F.slot_int_rmul (typeIs_int s k t) F.entry_int_rmul (F.args_int_rmul_2 _ _) (lm_int_rmul_list_any k t l its.toArray n dd sl)
      ⟨ho, rfl, ⟨_, ho, rfl⟩, call_meets F.slot_list_mul ⟨_, ho, rfl⟩ F.entry_list_mul (F.args_list_mul_2 _ _)
        (lm_list_mul_any l its.toArray n dd sl k t (by simp [Builtin.List.listFitsIndex]; omega) (by omega) (by simp [Builtin.List.listTooLong, sizeLine]; simp at hm; omega))
        ⟨ho, ?_⟩⟩)
  rw [listMul_foldl_if]
  exact ⟨.ref _, _, I.lnew (t' := s.toks) (Vals.repL r k.toNat) (by
    rw [PyProof.Rows.lm_len_rep_flat, sizeLine_eq]
    have a1 : k.toNat * xs.length ≤ 1000 * 1000 := Nat.mul_le_mul (by omega) hz
    omega), rfl, q _ I.fresh⟩
def fRepL : D → D → (List D → Prop) → Prop := fun x y P => match x, y with
  | .lst a, .int n => (0 ≤ n ∧ n ≤ 1000 ∧ a.length ≤ 1000) ∧ P (List.replicate n.toNat a).flatten
  | _, _ => False
theorem o_repL : OpR X (binaryOp .Mult) (rRepL X.K) ∧ OpF X B (rRepL X.K) fRepL := ⟨op_repL, fun {Z S Γ σ H fp ofp x y vx vy Q P} r bx by_ h q => by
  cases x with
  | lst i =>
    cases y with
    | int j =>
      obtain ⟨a, xs, rfl, s1, d1⟩ := bx.list r
      cases by_.int
      refine ⟨a, j, xs, rfl, rfl, s1, h.1.1, h.1.2.1, by rw [d1.length]; exact h.1.2.2, fun l hl => ?_⟩
      obtain ⟨q1, q2, q3, q4⟩ := r.fresh hl
      exact q _ h.2 Z _ l _ (r.grow hl) (r.up0 hl) upd_same (d1.rep _) q3 q1 q2 hl
    | _ => exact False.elim h
  | _ => exact False.elim h⟩
end
end DL
namespace DL
open PySem PySem.Spec PyProof.Rows L2
section
variable {X : Cx} {B : Bs}
/-! ### x <= y of ints or of texts -/
def fLeS : D → D → (D → Prop) → Prop := fun x y P => match x, y with
  | .int i, .int j => P (.bl (decide (i ≤ j)))
  | .str a, .str b => P (.bl (!strLt b a))
  | _, _ => False
def rLeS : R2 := fun x y H Q => rI0 (fun i j => .bl (decide (i ≤ j))) x y H Q ∨ ∃ i j, x = .str i ∧ y = .str j ∧ Q (.bl (!decide (j.cps.toList < i.cps.toList))) H
theorem o_leS : OpR X (compareOp .LtE) rLeS ∧ OpD X B rLeS fLeS :=
  ⟨op_le.or op_le_str, fun {Z S Γ σ H fp ofp x y vx vy Q P} r bx by_ h q => by
    unfold fLeS at h
    split at h
    · exact .inl ⟨_, _, bx.int, by_.int, q _ h Z H _ r (.refl _ _ _) (.bl _)⟩
    · exact .inr ⟨_, _, bx.str, by_.str, q _ h Z H _ r (.refl _ _ _) (.bl _)⟩
    · exact h.elim⟩
/-! ### x < y of data that can be compared -/
def ltD (x y : D) : Bool := PySem.W.dataLt (py x) (py y)
def likeD (x y : D) : Prop := PySem.W.alike (py x) (py y) = true ∧ py x ≠ .none
def fLtA : D → D → (D → Prop) → Prop := fun x y P => cmpOk x ∧ cmpOk y ∧ likeD x y ∧ P (.bl (ltD x y))
def rLtA (K : PySem.W.Frag) : R2 := fun x y H Q => ∃ d e, Dp K H x d ∧ Dp K H y e ∧ PySem.W.alike d e = true ∧ d ≠ .none ∧ min d.depth e.depth ≤ 60 ∧ Q (.bl (PySem.W.dataLt d e)) H
theorem op_ltA (hu : X.A.units + 100 < cLine) : OpR X (compareOp .Lt) (rLtA X.K) := by
  intro pins s σ H x y v u Q I rx ry h
  obtain ⟨d, e, hd, he, sd, se, hm, q⟩ := h
  obtain ⟨as, r1⟩ := Dp.reads I d x v hd rx
  obtain ⟨bs, r2⟩ := Dp.reads I e y u he ry
  exact PySem.W.lt_data r1 r2 sd se (by omega) ⟨.bl _, H, I, rfl, q⟩
theorem o_ltA (hu : X.A.units + 100 < cLine) : OpR X (compareOp .Lt) (rLtA X.K) ∧ OpD X B (rLtA X.K) fLtA := ⟨op_ltA hu, fun {Z S Γ σ H fp ofp x y vx vy Q P} r bx by_ h q =>
  ⟨_, _, bx.dp r h.1.1, by_.dp r h.2.1.1, h.2.2.1.1, h.2.2.1.2, Nat.le_trans (Nat.min_le_left _ _) h.1.2, q _ h.2.2.2 Z H _ r (.refl _ _ _) (.bl _)⟩⟩
/-! ### ord, str of an int -/
def fOrd : List D → (D → Prop) → Prop := fun xs P => match xs with
  | [.str z] => z.length = 1 ∧ P (.int (z.cps.getD 0 0 : Nat))
  | _ => False
theorem bb_ord : bootBuiltins "ord" = some (.builtin "ord") := by rfl
theorem o_ord : CallR X (.builtin "ord") (fun xs H Q => ∃ x, xs = [.str x] ∧ x.length = 1 ∧ Q (.int (x.cps.getD 0 0 : Nat)) H) ∧ CallD X B (fun xs H Q => ∃ x, xs = [.str x] ∧ x.length = 1 ∧ Q (.int (x.cps.getD 0 0 : Nat)) H) fOrd := ⟨call_ord, fun {Z S Γ σ H fp ofp xs vs Q P} r bv h q => by
  unfold fOrd at h
  split at h
  · cases bv with
    | cons b1 b2 =>
      cases b2
      cases b1.str
      exact ⟨_, rfl, h.1, q _ h.2 Z H _ r (.refl _ _ _) (.int _)⟩
  · exact h.elim⟩
def fStrI : List D → (D → Prop) → Prop := fun xs P => match xs with
  | [.int i] => i.natAbs.log2 < 1920 ∧ P (.str (toString i))
  | _ => False
theorem o_strI : CallR X (.type "str") (fun xs H Q => ∃ i, xs = [.int i] ∧ i.natAbs.log2 < 1920 ∧ Q (.str (toString i)) H) ∧ CallD X B (fun xs H Q => ∃ i, xs = [.int i] ∧ i.natAbs.log2 < 1920 ∧ Q (.str (toString i)) H) fStrI := ⟨call_str_int, fun {Z S Γ σ H fp ofp xs vs Q P} r bv h q => by
  unfold fStrI at h
  split at h
  · cases bv with
    | cons b1 b2 =>
      cases b2
      cases b1.int
      exact ⟨_, rfl, h.1, q _ h.2 Z H _ r (.refl _ _ _) (.str _)⟩
  · exact h.elim⟩
end
end DL
namespace DL
open PySem PySem.Spec PyProof.Rows L2
section
variable {X : Cx} {B : Bs} {o e : Expr} {to' ti : DE} {pos : Pos}
/-- o[k], o a dict of written keys, k a text -/
def dDctIx (nm : List Str) (to ti : DE) : DE := fun Γ S Q => to Γ S fun x S1 => ti Γ S1 fun k S2 => match x, k with
  | .ref n, .str f => ∃ ds j d, cellAt S2 n = some (.dct nm ds) ∧ nm[j]? = some f ∧ itemAt ds j = some d ∧ Q d S2
  | _, _ => False
theorem pd_dctix {nm : List Str} (hu : X.A.units + 1 < cLine) (nd : nm.Nodup) (ho : PD X B o to') (hi : PD X B e ti) (hs : NoSl e := by exact fun _ _ => rfl) : PD X B (.Subscript o e pos) (dDctIx nm to' ti) :=
  PE.weak (pe_dget hu ho hi hs) fun σ H Q h => by
  obtain ⟨Z, S, Γ, fp, ofp, P, r, h, q⟩ := h
  refine ⟨Z, S, Γ, fp, ofp, _, r, h, fun x S1 h1 Z1 H1 fp1 vx r1 l1 b1 => ?_⟩
  refine ⟨Z1, S1, Γ, fp1, ofp, _, r1, h1, fun k S2 h2 Z2 H2 fp2 vk r2 l2 b2 => ?_⟩
  cases x with
  | ref n =>
    cases k with
    | str f =>
      obtain ⟨ds, j, d, e1, hj, e2, h2⟩ := h2
      have b1 := b1.mono l2.le
      cases b1
      cases b2
      obtain ⟨as, c, _⟩ := r2.cell e1
      cases c with
      | dct k1 k2 =>
        obtain ⟨v, g1, g2⟩ := k2.val nd hj e2
        refine ⟨_, v, rfl, ?_, q _ S2 h2 Z2 H2 fp2 v r2 (l1.trans l2) g2⟩
        have g := DGet.k (k := Sum.inr f) k1
        rw [g1] at g
        exact g
    | _ => exact False.elim h2
  | _ => exact False.elim h2
end
end DL
namespace DLE
open PySem PySem.Spec PyProof.Rows L2 PySem.W
/-! ### enumerate over a tuple -/
theorem meets_enum_newT (l : Addr) (items : Array Value) (n : Nat) (dct : Option Addr) (sl : Array (Option Value)) :
    Meets (Builtin.«enumerate.__new__» ⟨[.type "enumerate", .ref l], []⟩) (fun _ R s => s.heap.get? l = some { cls := .type "tuple", dict := dct, data := .seq items n, slots := sl } ∧
      R (.ok (.ret (.ref (s.heap.push { cls := .type "tuple_iterator", data := .fields #[.ref l, .int 0 0] }).objs.size)))
        { s with heap := (s.heap.push { cls := .type "tuple_iterator", data := .fields #[.ref l, .int 0 0] }).push { cls := .type "enumerate", data := .fields #[.none, .bool false, .ref s.heap.objs.size, rawInt 0, .none, .none] } }) :=
  .of_wp fun prog w A R s h => by
    obtain ⟨hp, g, d, tk, os⟩ := s; obtain ⟨hl, h⟩ := h
    have hsub := sub_enumerate
    have hL : Heap.IsTuple (Shared.heap ⟨hp, g, d, tk, os⟩) l items := ⟨_, hl, rfl, n, rfl⟩
    wp_walk using wpAny_loadPart' hl
    refine wpAny_stack_any fun st => wpAny_pure ?_
    split
    · rename_i c _ _ _ _ _
      cases (c == Value.type "enumerate")
      · wp_walk using wpAny_loadPart' hl, wpAny_pyIter_tuple hL
        exact ⟨_, rfl, h⟩
      · wp_walk using wpAny_loadPart' hl, wpAny_pyIter_tuple hL
        exact ⟨_, rfl, h⟩
    · wp_walk using wpAny_loadPart' hl, wpAny_pyIter_tuple hL
      exact ⟨_, rfl, h⟩
section
variable {prog : Program} {w : World} {A : Around} {E : Value → Shared → Prop} {s : Shared}
theorem call_enum_tuple {l : Addr} {items : Array Value} {Q : Value → Shared → Prop} (hL : s.heap.IsTuple l items)
    (h : ∀ h', IsEnum h' (s.heap.objs.size + 1) s.heap.objs.size 0 .none → h'.IsTupleIter s.heap.objs.size l 0 → h'.objs.size = s.heap.objs.size + 2 →
      (∀ b o, s.heap.get? b = some o → h'.get? b = some o) → Q (.ref (s.heap.objs.size + 1)) { s with heap := h' }) :
    wpAny (model prog w) A (call (.type "enumerate") [.ref l]) Q E s := by
  obtain ⟨⟨c, dct, dt, sl⟩, hl, hc, n, hd⟩ := hL
  replace hc : c = .type "tuple" := hc
  replace hd : dt = .seq items n := hd
  subst hc hd
  refine callType_new F.called_enumerate (by decide) (F.typeCall_enumerate_1 _) (F.newCall_enumerate_1 _) (fun obj => F.args_object_init_2 obj _) F.entry_enumerate_new
    (meets_enum_newT l items n dct sl) ⟨hl, ?_⟩
  have hz : (s.heap.push { cls := .type "tuple_iterator", data := .fields #[.ref l, .int 0 0] }).objs.size = s.heap.objs.size + 1 := Heap.size_push ..
  show _ ∧ _
  rw [hz]
  have he : IsEnum ((s.heap.push { cls := .type "tuple_iterator", data := .fields #[.ref l, .int 0 0] }).push
      { cls := .type "enumerate", data := .fields #[.none, .bool false, .ref s.heap.objs.size, rawInt 0, .none, .none] }) (s.heap.objs.size + 1) s.heap.objs.size 0 .none := by
    have := Heap.get?_push_size (s.heap.push { cls := .type "tuple_iterator", data := .fields #[.ref l, .int 0 0] })
      (o := { cls := .type "enumerate", data := .fields #[.none, .bool false, .ref s.heap.objs.size, rawInt 0, .none, .none] }) rfl
    rw [hz] at this; exact this
  refine ⟨⟨_, he, rfl⟩, h _ he ⟨_, Heap.get?_push_of_some _ (Heap.get?_push_size _ rfl), rfl, rfl⟩ (by rw [Heap.size_push, hz]) fun b o x => Heap.get?_push_of_some _ (Heap.get?_push_of_some _ x)⟩
end
section
variable {prog : Program} {w : World} {A : Around} {E : Value → Shared → Prop} {s : Shared}
theorem next_enum_endT {e it l : Addr} {i : Nat} {items : Array Value} {old : Value} {c : Int} {Q : Option Value → Shared → Prop} (hh : A.in1.handled = none)
    (he : IsEnum s.heap e it c old) (hit : s.heap.IsTupleIter it l i) (hL : s.heap.IsTuple l items) (hx : items[i]? = none)
    (hQ : ∀ h', Heap.ExtBut it s.heap h' → Q none { s with heap := h' }) : wpAny (model prog w) A (pyNext (.ref e)) Q E s := by
  have hT : s.TypeIs (.ref e) "enumerate" := ⟨_, he, rfl⟩
  unfold pyNext
  refine wpAny_bind (wpAny_attempt (wpAny_callSpecial?_slot (name := Str.ofString "__next__") hT F.slot_enumerate_next
    (wpAny_call_entry F.slot_enumerate_next hT F.entry_enumerate_next ?_ (F.args_enumerate_next_1 _))))
  show wpAny _ _ (field (.ref e) 2 >>= _) _ _ _
  refine wpAny_bind (wpAny_field he rfl (x := .ref it) rfl ?_)
  refine wpAny_bind (wpAny_nextOf_tuple_end hh hit hL hx fun h' x he' hx' => ?_)
  obtain ⟨o, ho, hc⟩ := hx'
  refine wpAny_bind (wpAny_isInstance (T := "StopIteration") (b := true) ⟨o, ho, hc⟩ isSubtype_stop ?_)
  exact wpAny_pure (hQ _ he')
end
/-- the tuple at a, each item in a new pair -/
def IteT (K : PySem.W.Frag) (a : Addr) : It :=
  ⟨fun i H => ∃ (xs : List V) (x : V), SqT K H a xs ∧ xs[i]? = some x, fun i H v H' => ∃ T x, v = .ref T ∧ H T = none ∧ H' = upd H T (.tup [.int (i : Nat), x]) ∧ ∀ xs, SqT K H a xs → xs[i]? = some x, fun i H => ∃ xs : List V, SqT K H a xs ∧ xs.length ≤ i⟩
theorem turn_enumT {P : Program} {w : World} {K : PySem.W.Frag} {elts : List Expr} {kk : Nat} {tpos : Pos} (a e it : Addr) (hat : a ≠ it) (hae : e ≠ a) :
    Turn P w K (.Tuple elts kk tpos) (IteT K a) [e, it] e (fun i h => (∃ old, IsEnum h e it ((i : Nat) : Int) old) ∧ h.IsTupleIter it a i ∧ e ≠ it) where
  mem := by simp
  obj := fun i h st b hb => by
    obtain ⟨⟨old, he⟩, ⟨o, ho, hc, hd⟩, _⟩ := st
    have e' : b = e ∨ b = it := by simpa using hb
    rcases e' with z | z
    · rw [z]; exact ⟨_, he, fun v q => nomatch q⟩
    · rw [z]; exact ⟨o, ho, fun v q => by rw [hd] at q; cases q⟩
  keep := fun i h h' st k => let ⟨⟨old, he⟩, hi, hne⟩ := st; ⟨⟨old, k e (by simp) _ he⟩, hi.at fun o q => k it (by simp) o q, hne⟩
  item := by
    intro X hP hw hK hc i pins s σ H E I hf st hg
    subst hP hw hK
    obtain ⟨⟨old, he⟩, hit, hne⟩ := st
    obtain ⟨xs, x, hq, hx⟩ := hg
    obtain ⟨its, rv, p, hz⟩ := I.tuple hq
    obtain ⟨u, hu, ru⟩ := rv.get hx
    have hel : e < s.heap.objs.size := Heap.lt_size he
    have hil : it < s.heap.objs.size := by obtain ⟨_, q, _⟩ := hit; exact Heap.lt_size q
    have hh : X.A.in1.handled = none := I.ok.hd hc
    have pT : s.heap.IsTuple a its.toArray := p
    have hlt : i < its.toArray.size := by
      rw [List.size_toArray]
      exact (List.getElem?_eq_some_iff.mp hu).1
    have hea : e ∉ [it, a] := by simp [hne, hae]
    refine wpAny_pyNext_enum_itemD (Draws.tuple hh it a hat its.toArray) he ⟨hit, pT⟩ hlt hne hea fun y h' tk hy ho hst' hT hsz hk => ?_
    have ey : y = u := by
      have : its[i]? = some y := by simpa using hy
      rw [hu] at this
      exact (Option.some.inj this).symm
    subst ey
    have hit' := hst'.1
    refine ⟨_, rfl, wpAny_letOwnedTupleGo_enum (s := { s with heap := h', toks := tk + 1 }) ho fun h'' he' sb => ?_⟩
    have hT2 : h''.get? s.heap.objs.size = some { cls := .type "tuple", data := .seq #[.int i tk, y] } := (sb.2 _ (Nat.ne_of_gt hel)).trans hT
    have new : ObjOk X.prog X.w (upd H s.heap.objs.size (.tup [.int (i : Nat), x])) h'' s.heap.objs.size (.tup [.int (i : Nat), x]) :=
      ⟨by show 2 ≤ sizeLine; decide, [.int i tk, y], .cons ⟨_, rfl⟩ (.cons ru .nil), ⟨_, hT2, rfl, _, rfl⟩⟩
    have I1 : Inv X pins σ (upd H s.heap.objs.size (.tup [.int (i : Nat), x])) { s with heap := h'', toks := tk + 1 } :=
      I.turnedNew (ch := [e, it]) (fun b ob hb q => (sb.2 b (fun z => hb (by simp [z]))).trans (hk b ob (fun z => hb (by simp [z])) (fun z => hb (by simp [z])) q)) hf (Nat.le_refl _) new
    refine ⟨.ref s.heap.objs.size, _, I1, rfl, ⟨_, x, rfl, I.hok.fresh (Nat.le_refl _), rfl, fun ys hy => by rw [I.tuple_inj hy hq]; exact hx⟩, ⟨⟨y, ?_⟩, hit'.at fun o q => (sb.2 it (Ne.symm hne)).trans q, hne⟩, fun b hb => ?_⟩
    · have e1 : ((i + 1 : Nat) : Int) = (i : Int) + 1 := by omega
      rw [e1]; exact he'
    · have hb' : b < s.heap.objs.size := by
        have e' : b = e ∨ b = it := by simpa using hb
        rcases e' with z | z
        · rw [z]; exact hel
        · rw [z]; exact hil
      rw [upd_ne (Nat.ne_of_lt hb')]
      exact (hf b hb).1
  done := by
    intro X hP hw hK hc i pins s σ H E I hf st hg
    subst hP hw hK
    obtain ⟨⟨old, he⟩, hit, hne⟩ := st
    obtain ⟨xs, hq, hx⟩ := hg
    obtain ⟨its, rv, p, hz⟩ := I.tuple hq
    obtain ⟨f0, f1, f2, f3, f4, f5⟩ := hf it (by simp)
    have hl := rv.length
    have hh : X.A.in1.handled = none := I.ok.hd hc
    have pT : s.heap.IsTuple a its.toArray := p
    exact next_enum_endT hh he hit pT (by rw [List.getElem?_toArray]; exact List.getElem?_eq_none (by omega)) fun h' eb => ⟨rfl, I.turned (t' := s.toks) (fun b o hb q => eb b o hb q) f0 f1 f3 f4 f5⟩
  self := fun A i s Q E st h => let ⟨⟨_, he⟩, _⟩ := st; wpAny_pyIter_enum he h
def iEnumT (K : PySem.W.Frag) (ta : TA) : TI := fun σ H R => ta σ H fun vs H1 => ∃ a xs, vs = [.ref a] ∧ SqT K H1 a xs ∧ R (IteT K a) H1
theorem pi_enumT {X : Cx} {e : Expr} {ta : TA} {p pos tpos : Pos} {elts : List Expr} {kk : Nat} (hg : Gl X "enumerate") (hm : X.mg "enumerate" = none) (ha : PA X [e] ta) (hs : starEach [e] X.env = [(false, eval e X.env)] := by rfl) :
    PI X (.Tuple elts kk tpos) (.Call (.Name "enumerate" p) [e] [] pos) (iEnumT X.K ta) := by
  refine ⟨fun pins s σ H R I h => ?_⟩
  refine Call_ (ld_blt I hg hm boot_enumerate (PyProof.Rows.callWith_type1 (thn (ha.run pos pins s σ H _ I h) fun us s1 ⟨vs, H1, I1, r1, q1⟩ => ?_) hs rfl))
  obtain ⟨a, xs, ex, hq, q⟩ := q1
  subst ex
  cases r1 with
  | cons r rr =>
    cases rr
    cases r
    obtain ⟨its, rv, p', hz⟩ := I1.tuple hq
    have pT : s1.heap.IsTuple a its.toArray := p'
    have ha1 : a < s1.heap.objs.size := by obtain ⟨_, q, _⟩ := pT; exact Heap.lt_size q
    refine call_enum_tuple pT fun h' he hit hsz hk => wpAny_pyIter_enum he ?_
    have I2 : Inv X pins σ H1 { s1 with heap := h' } := I1.kept (t' := s1.toks) hk
    refine ⟨s1.heap.objs.size + 1, [s1.heap.objs.size + 1, s1.heap.objs.size], _, _, H1, rfl, I2, turn_enumT a (s1.heap.objs.size + 1) s1.heap.objs.size (Nat.ne_of_lt ha1) (Nat.ne_of_gt (Nat.lt_succ_of_lt ha1)), ⟨⟨.none, he⟩, hit, Nat.succ_ne_self _⟩, fun b hb => ?_, q⟩
    have e' : b = s1.heap.objs.size + 1 ∨ b = s1.heap.objs.size := by simpa using hb
    have hle : s1.heap.objs.size ≤ b := by
      rcases e' with z | z
      · rw [z]; exact Nat.le_add_right _ _
      · rw [z]; exact Nat.le_refl _
    exact I1.fpOk hle (I1.hok.fresh hle)
end DLE
namespace DL
open PySem PySem.Spec PyProof.Rows L2
/-- the pairs of enumerate -/
def enumL (lo : Int) : List D → List D
  | [] => []
  | d :: ds => .tup [.int lo, d] :: enumL (lo + 1) ds
theorem enumL_get : ∀ (ds : List D) (lo : Int) (i : Nat), (enumL lo ds)[i]? = (ds[i]?).map fun d => .tup [.int (lo + i), d]
  | [], lo, i => by simp [enumL]
  | d :: ds, lo, 0 => by simp [enumL]
  | d :: ds, lo, i + 1 => by
    show (enumL (lo + 1) ds)[i]? = _
    rw [enumL_get ds (lo + 1) i, List.getElem?_cons_succ]
    have : lo + 1 + (i : Int) = lo + ((i + 1 : Nat) : Int) := by omega
    rw [this]
def dEnT (te : DE) : DA := fun Γ S Q => te Γ S fun x S1 => match x with
  | .tup ds => Q (enumL 0 ds) S1
  | _ => False
section
variable {X : Cx} {B : Bs} {e : Expr} {te : DE} {pos p tpos : Pos}
theorem it_enT {K : PySem.W.Frag} {B : Bs} {Z : Fz} {a : Addr} {us : List V} {xs : List D} (h : SqT K Z.F a us) (d : DVs K Z us xs) : ItOk K B Z (DLE.IteT K a) (enumL 0 xs) := fun i Z1 S Γ σ H fp ofp r l => by
  have hH : SqT K H a us := same_sqT (fun b o e => r.fr b o (l.f b o e)) h
  refine ⟨fun x e => ?_, fun e => ⟨us, hH, ?_⟩⟩
  · rw [enumL_get] at e
    cases ex : xs[i]? with
    | none => rw [ex] at e; cases e
    | some y =>
      rw [ex] at e
      cases e
      obtain ⟨v, e1, dv⟩ := d.getD ex
      refine ⟨⟨us, v, hH, e1⟩, fun w H' q => ?_⟩
      obtain ⟨T, x, rfl, hT, rfl, q⟩ := q
      have e2 := q us hH
      rw [e1] at e2
      cases e2
      have u := r.upF (o := .tup [.int ((i : Nat) : Int), v]) hT
      refine ⟨_, r.growF hT, u, ?_⟩
      rw [Int.zero_add]
      exact .tup (SqT.of (show upd Z1.F T (.tup [.int ((i : Nat) : Int), v]) T = _ from upd_same)) (.cons (.int _) (.cons ((dv.mono l).mono u.le) .nil))
  · rw [enumL_get] at e
    rw [d.length]
    cases ex : xs[i]? with
    | none => exact List.getElem?_eq_none_iff.mp ex
    | some y => rw [ex] at e; cases e
theorem pi_denT {elts : List Expr} {kk : Nat} (hg : Gl X "enumerate") (hm : X.mg "enumerate" = none) (he : PD X B e te) (hs : starEach [e] X.env = [(false, eval e X.env)] := by rfl) :
    PID X B (.Tuple elts kk tpos) (.Call (.Name "enumerate" p) [e] [] pos) (dEnT te) := PI.weak (DLE.pi_enumT hg hm (pa_cons he pa_nil hs) hs) fun σ H Rr h => by
  obtain ⟨Z, S, Γ, fp, ofp, P, r, h, q⟩ := h
  refine ⟨Z, S, Γ, fp, ofp, _, r, h, fun d S1 p1 Z1 H1 fp1 v1 r1 l1 dv1 => ?_⟩
  cases dv1 with
  | tup h1 d1 => exact ⟨_, _, rfl, same_sqT r1.fr h1, q _ S1 p1 Z1 H1 fp1 r1 l1 _ (it_enT h1 d1)⟩
  | _ => exact False.elim p1
end
end DL
namespace DLT
open PySem PySem.Spec PyProof.Rows L2 PySem.Froz
/-! ### a set of texts, its payload known -/
def keyS (e : Int × Value) : Str := match e.2 with
  | .str k _ => k
  | _ => Str.empty
structure TxR (P : Program) (w : World) (D : SD) (l : List Str) : Prop where
  tx : TxOk P w D l
  gs : ∀ e ∈ D.1.toList, ∃ k tk, e.2 = Value.str k tk
  pm : (D.1.toList.map keyS).Perm l
  ris : Ris D.2.2.place.toList
  led : w.params.followText "set-order" = true ∨ D.2.2.led = true
section
variable {P : Program} {w : World} {A : Around} {E : Value → Shared → Prop} {s : Shared}
theorem tail_perm {ep : Nat} {es1 : Array (Int × Value)} {t2 : SetTable} {b : Bool} : (tailTx ep es1 t2 b).1.toList.Perm es1.toList := by
  unfold tailTx
  split
  · exact relayAll_perm _ _ _
  · exact .refl _
theorem tail_ris {ep : Nat} {es1 : Array (Int × Value)} {t2 : SetTable} {b : Bool} (r : Ris t2.place.toList) : Ris (tailTx ep es1 t2 b).2.2.place.toList := by
  unfold tailTx
  split
  · exact relayAll_ris _ _ _
  · exact r
theorem tail_led {ep : Nat} {es1 : Array (Int × Value)} {t2 : SetTable} {b : Bool} : (tailTx ep es1 t2 b).2.2.led = t2.led := by
  unfold tailTx
  split
  · exact relayAll_led _ _ _
  · rfl
theorem off_place {t : SetTable} : (if t.plain = true then { t with plain := false } else t).place = t.place := by split <;> rfl
theorem off_led {t : SetTable} : (if t.plain = true then { t with plain := false } else t).led = t.led := by split <;> rfl
theorem addTx_perm (h : Int) (v : Value) (D : SD) : (addTx h v D).1.toList.Perm (D.1.push (h, v)).toList :=
  (tail_perm (ep := D.2.1)).trans (layNew_perm D.2.2 D.1 h v)
theorem addTx_ris {h : Int} {v : Value} {D : SD} (r : Ris D.2.2.place.toList) : Ris (addTx h v D).2.2.place.toList := by
  refine tail_ris ?_
  rw [off_place]
  exact layNew_ris D.2.2 D.1 h v r
theorem addTx_led {h : Int} {v : Value} {D : SD} : (addTx h v D).2.2.led = D.2.2.led :=
  tail_led.trans (off_led.trans (layNew_led D.2.2 D.1 h v))
theorem TxR.add {D : SD} {l : List Str} {k : Str} (u : Tok) (F : TxR P w D l) : TxR P w (addTx (hashStr w k) (.str k u) D) (k :: l) where
  tx := add_ok u F.tx
  gs := fun e he => by
    have m := (addTx_perm (hashStr w k) (.str k u) D).mem_iff.mp he
    rw [Array.toList_push] at m
    rcases List.mem_append.mp m with m | m
    · exact F.gs e m
    · rw [List.mem_singleton.mp m]
      exact ⟨k, u, rfl⟩
  pm := by
    have p := (addTx_perm (hashStr w k) (.str k u) D).map keyS
    rw [Array.toList_push, List.map_append] at p
    exact p.trans ((List.perm_append_singleton _ _).trans (F.pm.cons k))
  ris := addTx_ris F.ris
  led := F.led.imp id fun z => addTx_led.trans z
/-- one that is there already -/
theorem dup_x {a : Addr} {D : SD} {l : List Str} {k : Str} {u : Tok} {Q : Bool → Shared → Prop} (ho : s.heap.get? a = some (sObj "set" D)) (F : TxOk P w D l) (hk : k ∈ l) (hb : l.length + 1 < scanBound)
    (h : Q false s) : wpAny (model P w) A (setAddHashed a (.str k u) (hashStr w k)) Q E s := by
  obtain ⟨es, ep, t⟩ := D
  have hd : (sObj "set" (es, ep, t)).data = .set es ep t := rfl
  have hf : t.fits es.size = true := F.fit
  have hel : ElemsOf (strKind P w) es.toList := F.el
  have hsz : es.size = l.length := F.sz
  have hb0 : es.size < scanBound := by omega
  have hkey : (strKind P w).is k (.str k u) = true := is_str k u
  unfold setAddHashed setAddHashedIn
  refine wpAny_holding (wpAny_bind (wpAny_setState_of ho hd hf ?_))
  dsimp only
  rw [byScan_of rfl hb0 hel]
  simp only [↓reduceIte]
  unfold setAddByScan
  refine wpAny_bind ?_
  refine wpAny_bind (wpAny_rule ?_)
  refine wpAny_bind (wpAny_setScan_of (knd := strKind P w) (k := k) hkey ho hd hf hel ?_)
  cases hfi : List.findIdx? (fun e => (strKind P w).is k e.2) es.toList with
  | some j =>
    dsimp only
    exact wpAny_pure (wpAny_pure h)
  | none =>
    obtain ⟨e, he, q⟩ := (F.mem k).mp hk
    have c := List.findIdx?_eq_none_iff.mp hfi e he
    rw [q] at c
    cases c
/-- what stands at S behind the first i texts -/
def At (P : Program) (w : World) (h : Heap) (S : Addr) (xs : List Str) (i : Nat) : Prop := ∃ D l, h.get? S = some (sObj "set" D) ∧ TxR P w D l ∧ l.Nodup ∧ (∀ k, k ∈ l ↔ k ∈ xs.take i) ∧ l.length ≤ i
theorem At.keep {h h' : Heap} {S : Addr} {xs : List Str} {i : Nat} (a : At P w h S xs i) (k : ∀ o, h.get? S = some o → h'.get? S = some o) : At P w h' S xs i := by
  obtain ⟨D, l, ho, r⟩ := a
  exact ⟨D, l, k _ ho, r⟩
theorem loop_texts {I : Addr} {fp wr : List Addr} {G : Array GenState → Array GenState → Prop} {n : Nat} {Pv : Nat → Value → Prop} {St : Nat → Shared → Prop} {R : Result → Shared → Prop}
    (W : WalksS P w A.in1 I fp wr G n Pv St) (S : Addr) (hSf : S ∉ fp) (xs : List Str) (hn : n = xs.length) (hb : xs.length + 1 < scanBound) (hval : ∀ i v, Pv i v → ∃ k t, xs[i]? = some k ∧ v = .str k t) :
    ∀ (k i : Nat) (s : Shared), n - i = k → i ≤ n → St i s → At P w s.heap S xs i →
      (∀ s', Moved (S :: wr) G s s' → At P w s'.heap S xs n → R (.ok (.ret .none)) s') →
      codeAny (model P w) A (.builtin "set.update.loop" ⟨[.ref S, .ref I], []⟩) R s := by
  have hSw : S ∉ wr := fun h => hSf (W.sub _ h)
  have hsub : ∀ b ∈ wr, b ∈ S :: wr := fun b hb => List.mem_cons_of_mem _ hb
  intro k
  induction k with
  | zero =>
    intro i s hk' hi hst hS hR
    have hin : i = n := by omega
    subst hin
    refine codeAny_builtin F.entry_set_update_loop ?_
    rw [Around.under_plainId F.plain_set_update_loop _]
    show wpAny _ A.in1 (pyNext (.ref I) >>= _) _ _ s
    refine wpAny_bind (W.done s _ _ hst fun s' hm => ?_)
    show wpAny _ A.in1 (ret Value.none) _ _ s'
    exact wpAny_pure (hR s' (hm.mono hsub) (hS.keep fun o e => hm.heap S o hSw e))
  | succ k ih =>
    intro i s hk' hi hst hS hR
    have hlt : i < n := by omega
    refine codeAny_builtin F.entry_set_update_loop ?_
    rw [Around.under_plainId F.plain_set_update_loop _]
    show wpAny _ A.in1 (pyNext (.ref I) >>= _) _ _ s
    refine wpAny_bind (W.item i s _ _ hlt hst fun v s' hP hst' hm => ?_)
    obtain ⟨z, t, hz, rfl⟩ := hval i v hP
    obtain ⟨D, l, ho, FT, nd, hm', hle⟩ := hS.keep fun o e => hm.heap S o hSw e
    show wpAny _ A.in1 (holding [Value.str z t] (setAdd S (.str z t)) >>= _) _ _ s'
    refine wpAny_bind (wpAny_holding ?_)
    unfold setAdd
    refine wpAny_holding ?_
    refine wpAny_bind ((strKind P w).pyHash (k := z) (is_str z t) ?_)
    by_cases hk : z ∈ l
    · refine dup_x (s := { s' with toks := s'.toks + 1 }) ho FT.tx hk (by omega) ?_
      have hA : At P w s'.heap S xs (i + 1) := ⟨D, l, ho, FT, nd, fun j => by
        rw [List.take_add_one, hz, hm' j, List.mem_append]
        exact ⟨.inl, fun q => q.elim id fun q => by
          have : j = z := by simpa using q
          rw [this]
          exact (hm' z).mp hk⟩, by omega⟩
      refine wpAny_pure ⟨plainId_quiet F.plain_set_update_loop _, ih (i + 1) _ (by omega) hlt (W.frame _ s' _ _ hst' (Nat.le_succ _) fun b hb o e => e) hA fun s'' hm'' hS'' => ?_⟩
      exact hR s'' (Moved.trans W.gtrans ((hm.mono hsub).then_heap (Nat.le_succ _) fun b o hb e => e) hm'') hS''
    · refine add_x (s := { s' with toks := s'.toks + 1 }) ho FT.tx hk (by omega) ?_
      have sb : Heap.SameBut S s'.heap (s'.heap.update S (fun _ => sObj "set" (addTx (hashStr w z) (.str z t) D))) := Heap.SameBut.update _ _ _
      have hA : At P w (s'.heap.update S (fun _ => sObj "set" (addTx (hashStr w z) (.str z t) D))) S xs (i + 1) := ⟨_, z :: l, get_upd _ ho rfl, FT.add t, List.nodup_cons.mpr ⟨hk, nd⟩, fun j => by
        rw [List.take_add_one, hz, List.mem_cons, hm' j, List.mem_append]
        simp [or_comm], by rw [List.length_cons]; omega⟩
      refine wpAny_pure ⟨plainId_quiet F.plain_set_update_loop _, ih (i + 1) _ (by omega) hlt (W.frame _ s' _ _ hst' (Nat.le_succ _) fun b hb o e => ?_) hA fun s'' hm'' hS'' => ?_⟩
      · rw [sb.2 b (fun h : b = S => hSf (by rw [← h]; exact hb))]; exact e
      · refine hR s'' (Moved.trans W.gtrans ((hm.mono hsub).then_heap (Nat.le_succ _) fun b o hb e => ?_) hm'') hS''
        rw [sb.2 b (fun h : b = S => hb (by rw [h]; exact List.mem_cons_self))]; exact e
theorem str_get : ∀ {us : List Value} {xs : List Str} {i : Nat} {v : Value}, StrsAre us xs → us[i]? = some v → ∃ k t, xs[i]? = some k ∧ v = .str k t
  | _, _, i, v, .nil, h => by simp at h
  | _, _, 0, v, .cons n t hr, h => ⟨n, t, rfl, (Option.some.inj h).symm⟩
  | _, _, i + 1, v, .cons n t hr, h => str_get (i := i) hr h
theorem at_new {h : Heap} {a : Addr} {xs : List Str} (ho : h.get? a = some { cls := .type "set", dict := none, data := .set #[] 0 (.fresh 0 0 (!w.params.followText "set-order")) }) : At P w h a xs 0 :=
  ⟨(#[], 0, .fresh 0 0 (!w.params.followText "set-order")), [], ho, ⟨TxOk.nil (by rfl), fun e he => by simp at he, by exact .refl _, List.Pairwise.nil, by
    show _ ∨ (!w.params.followText "set-order") = true
    cases w.params.followText "set-order"
    · exact .inr rfl
    · exact .inl rfl⟩, .nil, fun k => by simp, Nat.le_refl _⟩
theorem call_set_texts {l : Addr} {items : Array Value} (xs : List Str) {Q : Value → Shared → Prop} (hh : A.handled = none) (hl : s.heap.IsTuple l items) (hit : StrsAre items.toList xs) (hb : xs.length + 1 < scanBound)
    (h : ∀ (h' : Heap) (tk : Nat), At P w h' s.heap.objs.size xs xs.length → (∀ b o, s.heap.get? b = some o → h'.get? b = some o) → Q (.ref s.heap.objs.size) { s with heap := h', toks := tk }) :
    wpAny (model P w) A (call (.type "set") [.ref l]) Q E s := by
  have hisz : items.size = xs.length := by
    have q := StrsAre.length hit
    rw [Array.length_toList] at q
    exact q
  obtain ⟨c, tl, hmro⟩ := F.called_set.mro
  have hmade := F.called_set.made
  have hsub := F.called_set.sub
  refine wpAny_call (codeAny_of_tree ?_)
  show wpAny _ _ (callAny (.type "set") _) _ _ _
  refine wpAny_pure ⟨Code.quiet_builtin _ (by decide +kernel), codeAny_builtin F.entry_type_call ?_⟩
  rw [Around.under_plain (weight_type_call_type "set" [.ref l] []) rfl]
  have h1 := F.called_set.notType
  have h2 := F.called_set.canCreate
  have hct := F.typeCall_set_1 (.ref l)
  generalize hN : ({ cls := .type "set", dict := none, data := .set #[] 0 (.fresh 0 0 (!w.params.followText "set-order")) } : Obj) = N
  repeat (any_goals (first | assumption | wp_step))
  refine codeAny_mono (code_set_led1 (.ref l) (E := E) (Q₁ := fun obj s₁ => obj = .ref s.heap.objs.size ∧ s₁ = { s with heap := s.heap.push N }) ⟨rfl, by rw [hN]⟩) fun r s₁ hr => ?_
  have hfr : N.isFreed = false := by rw [← hN]; rfl
  have hcls : N.cls = .type "set" := by rw [← hN]
  cases r with
  | error e => exact hr
  | ok fl =>
    cases fl with
    | ret obj =>
      obtain ⟨rfl, rfl⟩ := hr
      have hS : (s.heap.push N).get? s.heap.objs.size = some N := Heap.get?_push_size _ hfr
      have hT : Shared.TypeIs { s with heap := s.heap.push N } (.ref s.heap.objs.size) "set" := ⟨_, hS, hcls⟩
      have hli := F.called_set.init.lookup
      have hbi := F.called_set.init.bind (.ref s.heap.objs.size)
      repeat (any_goals (first | assumption | wp_step))
      refine codeAny_mono (codeAny_call_builtin (R := wants (fun r s₂ => r = .none ∧ ∃ h' tk, s₂ = { s with heap := h', toks := tk } ∧ At P w h' s.heap.objs.size xs xs.length ∧
          (∀ b o, s.heap.get? b = some o → h'.get? b = some o)) E) F.called_set.init.plain F.entry_set_init (check_set_init_1 hT ?_)) fun r₂ s₂ hr₂ => ?_
      · have hl1 : (s.heap.push N).IsTuple l items := hl.push _
        obtain ⟨ol, hol, hcl, nl, hdl⟩ := hl
        obtain ⟨ocls, odict, odata, oslots⟩ := ol
        simp only at hcl hdl
        subst hcl; subst hdl
        have hol' : (s.heap.push N).get? l = some { cls := .type "tuple", dict := odict, data := .seq items nl, slots := oslots } := Heap.get?_push_of_some _ hol
        have hsls := F.sub_tuple_set
        have hslf := F.sub_tuple_frozenset
        have hne : (Value.type "tuple" == Value.type "dict") = false := by decide
        subst hN
        unfold Builtin.«set.__init__» noKeywords Builtin.Frozenset.updateFrom
        generalize hPI : pyIter = PI
        wp_walk
        subst hPI
        refine wpAny_pyIter_tuple hl1 ?_
        refine wpAny_bind (wpAny_runValue ?_)
        have hlS : l < s.heap.objs.size := Heap.lt_size hol
        have hh3 : A.in1.in1.in1.handled = none := by simp [hh]
        have hz1 : (s.heap.push ({ cls := .type "set", dict := none, data := .set #[] 0 (.fresh 0 0 (!w.params.followText "set-order")) } : Obj)).objs.size = s.heap.objs.size + 1 := Heap.size_push ..
        have hneI : l ≠ (s.heap.push ({ cls := .type "set", dict := none, data := .set #[] 0 (.fresh 0 0 (!w.params.followText "set-order")) } : Obj)).objs.size := by
          rw [hz1]; exact Nat.ne_of_lt (Nat.lt_succ_of_lt hlS)
        have hSf : s.heap.objs.size ∉ [(s.heap.push ({ cls := .type "set", dict := none, data := .set #[] 0 (.fresh 0 0 (!w.params.followText "set-order")) } : Obj)).objs.size, l] := by
          rw [hz1]; simp only [List.mem_cons, List.mem_singleton, List.not_mem_nil, or_false, not_or]
          exact ⟨Nat.ne_of_lt (Nat.lt_succ_self _), Nat.ne_of_gt hlS⟩
        have hval : ∀ (i : Nat) (v : Value), items[i]? = some v → ∃ k t, xs[i]? = some k ∧ v = .str k t := fun i v hv => by
          exact str_get hit (by rw [Array.getElem?_toList]; exact hv)
        refine loop_texts ((Walks.tuple hh3 _ l hneI items).toS) s.heap.objs.size
          hSf xs hisz hb hval (items.size - 0) 0 _ (by omega) (Nat.zero_le _)
          ⟨⟨_, Heap.get?_push_size _ rfl, rfl, rfl⟩, (hl1.push _)⟩ ?hS0 ?hR
        case hS0 => exact at_new (Heap.get?_push_of_some _ hS)
        case hR =>
          intro s' hm hS'
          obtain ⟨h', g2, d', tk', os'⟩ := s'
          have eg : g2 = s.gens := hm.gens
          have ed : d' = s.drawn := hm.drawn
          have eo : os' = s.os := hm.os
          subst eg; subst ed; subst eo
          show wpAny _ _ _ _ _ _
          refine wpAny_pure ?_
          show wpAny _ _ (ret Value.none) _ _ _
          rw [hisz] at hS'
          refine wpAny_pure ⟨rfl, h', tk', rfl, hS', fun b o e => ?_⟩
          have hb0 : b < s.heap.objs.size := Heap.lt_size e
          exact hm.heap b o (by rw [hz1]; simp only [List.mem_cons, List.mem_singleton, List.not_mem_nil, or_false, not_or]; exact ⟨Nat.ne_of_lt hb0, Nat.ne_of_lt (Nat.lt_succ_of_lt hb0)⟩) (Heap.get?_push_of_some _ (Heap.get?_push_of_some _ e))
      · cases r₂ with
        | error e => exact hr₂
        | ok fl₂ =>
          cases fl₂ with
          | ret r =>
            obtain ⟨rfl, h', tk, rfl, hS', hk'⟩ := hr₂
            repeat (any_goals (first | assumption | wp_step))
            exact h _ _ hS' hk'
          | _ => exact hr₂.elim
    | _ => exact hr.elim
end
end DLT
namespace DLT
open PySem PySem.Spec PyProof.Rows L2 PySem.Froz
section
variable {P : Program} {w : World} {A : Around} {E : Value → Shared → Prop} {s : Shared}
theorem strs_vals : ∀ (l : List (Int × Value)), (∀ e ∈ l, ∃ k tk, e.2 = Value.str k tk) → StrsAre (l.map (·.2)) (l.map keyS)
  | [], _ => .nil
  | e :: l, h => by
    obtain ⟨k, tk, q⟩ := h e (.head _)
    have r := strs_vals l fun u hu => h u (.tail _ hu)
    rw [List.map_cons, List.map_cons, q, show keyS e = k by unfold keyS; rw [q]]
    exact .cons k tk r
theorem strs_perm : ∀ {us vs : List Value} {xs : List Str}, us.Perm vs → StrsAre vs xs → ∃ ys, StrsAre us ys ∧ ys.Perm xs := fun {us vs xs} p => by
  induction p generalizing xs with
  | nil => exact fun h => ⟨xs, h, .refl _⟩
  | cons a p ih =>
    intro h
    cases h with
    | cons n t hr =>
      obtain ⟨ys, h1, h2⟩ := ih hr
      exact ⟨n :: ys, .cons n t h1, h2.cons n⟩
  | swap a b l =>
    intro h
    cases h with
    | cons n t hr =>
      cases hr with
      | cons m u hr => exact ⟨_, .cons m u (.cons n t hr), List.Perm.swap _ _ _⟩
  | trans p1 p2 ih1 ih2 =>
    intro h
    obtain ⟨ys, h1, h2⟩ := ih2 h
    obtain ⟨zs, h3, h4⟩ := ih1 h1
    exact ⟨zs, h3, h4.trans h2⟩
theorem sorted_texts {a : Addr} {D : SD} {l : List Str} {Q : Value → Shared → Prop} (ho : s.heap.get? a = some (sObj "set" D)) (FT : TxR P w D l) (hh : A.handled = none) (h64 : l.length < 64)
    (hQ : ∀ s' p (out : Array Value) (c : Nat) (ys : List Str), (∀ b o, s.heap.get? b = some o → s'.heap.get? b = some o) → s'.gens = s.gens → s'.os = s.os → s.heap.objs.size ≤ p →
      s'.heap.get? p = some (seqObj "list" out c) → StrsAre out.toList ys → ys.Perm l → sortedS ys = true → Q (.ref p) s') :
    wpAny (model P w) A (call (.builtin "sorted") [.ref a]) Q E s := by
  obtain ⟨es, ep, t⟩ := D
  have hsz : es.size = l.length := FT.tx.sz
  have hb : es.size < scanBound := by rw [hsz]; exact Nat.lt_trans h64 (by decide)
  refine Calls.call_function_entry kind_sorted plain_sorted entry_sorted (args_sorted1 _) ?_
  unfold Builtin.«sorted»
  refine wpAny_bind (m := checkCount "sorted" 1 1 _) (wpAny_pure ?_)
  refine wpAny_bind (collect_set (A := A.in1) hh ⟨_, ho, rfl, rfl⟩ FT.tx.fit hb FT.ris FT.led fun s1 vs k1 hz g1 o1 pm => ?_)
  obtain ⟨xs, hS, hp⟩ := strs_perm pm (strs_vals es.toList FT.gs)
  have hpl : xs.Perm l := hp.trans FT.pm
  have hvl : vs.length = l.length := by rw [pm.length_eq, List.length_map, Array.length_toList]; exact hsz
  refine wpAny_bind (wpAny_newList ?_ (by rw [hvl, sizeLine_eq]; omega))
  have hoL : (s1.heap.push (seqObj "list" vs.toArray 0)).get? s1.heap.objs.size = some (seqObj "list" vs.toArray 0) := Heap.get?_push_size _ rfl
  refine wpAny_bind (wpAny_holding (wpAny_call_entry slot_list_sort ⟨_, hoL, rfl⟩ entry_list_sort
    (list_sort_treeK strKind_oneLt hoL hS.keysOf (fun v₁ v₂ rest e => keyKind_strs (by rw [← e]; exact hS)) (by rw [hvl]; exact h64) fun st' hp' hs' => ⟨_, rfl, ?_⟩) (args_list_sort _)))
  obtain ⟨ys, q1, q2, q3⟩ := sorted_out_str hS hp' hs'
  obtain ⟨c, hc⟩ := sortedHeap_at (vs := vs) (out := (arrOf st').map (·.2)) hoL
  refine wpAny_pure ⟨_, rfl, hQ _ s1.heap.objs.size _ c ys (fun b u e => ?_) g1 o1 hz hc q1 (q2.trans hpl) q3⟩
  have q := k1 b u e
  have hlt := Heap.lt_size q
  show (sortedHeap (s1.heap.push (seqObj "list" vs.toArray 0)) s1.heap.objs.size vs _).get? b = some u
  rw [sortedHeap_old (Nat.ne_of_lt hlt) (by rw [size_push']; exact Nat.lt_succ_of_lt hlt)]
  exact Heap.get?_push_of_some _ q
end
end DLT
namespace DL
open PySem PySem.Spec PyProof.Rows L2 PySem.Froz
def tSortSet (K : PySem.W.Frag) (ta : TA) : TE := fun σ H Q => ta σ H fun vs H1 => ∃ (a : Addr) (xs : List Str), vs = [.ref a] ∧ SqT K H1 a (xs.map V.str) ∧ xs.length < 63 ∧
  ∀ (ys : List Str) (p : Addr), ys.Nodup → (∀ k, k ∈ ys ↔ k ∈ xs) → sortedS ys = true → H1 p = none → Q (.ref p) (upd H1 p (.lst (ys.map V.str)))
theorem bb_set : bootBuiltins "set" = some (.type "set") := by rfl
theorem pe_sortSet {X : Cx} {e : Expr} {ta : TA} {p1 p2 pos pos2 : Pos} (hc : X.calm = true) (hg1 : Gl X "sorted") (hm1 : X.mg "sorted" = none) (hg2 : Gl X "set") (hm2 : X.mg "set" = none) (ha : PA X [e] ta)
    (hs : starEach [e] X.env = (false, eval e X.env) :: starEach [] X.env := by rfl)
    (h1 : starEach [.Call (.Name "set" p2) [e] [] pos2] X.env = (false, eval (.Call (.Name "set" p2) [e] [] pos2) X.env) :: starEach [] X.env := by rfl) :
    PE X (.Call (.Name "sorted" p1) [.Call (.Name "set" p2) [e] [] pos2] [] pos) (tSortSet X.K ta) := by
  refine ⟨fun pins s σ H Q I h => ?_⟩
  refine wpAny_Call_Name_kw (ld_blt I hg1 hm1 bb_sorted ?_ (by decide) (by decide))
  refine PyProof.Rows.callWith_builtin1 ?_ h1 rfl
  rw [h1]
  show wpAny _ _ (spliced ((false, eval (.Call (.Name "set" p2) [e] [] pos2) X.env) :: backTo pos (starEach [] X.env))) _ _ s
  refine Calls.spliced_cons ?_
  refine wpAny_Call_Name_kw (ld_blt I hg2 hm2 bb_set ?_ (by decide) (by decide))
  refine PyProof.Rows.callWith_type1 (thn (ha.run pos2 pins s σ H _ I h) fun us s1 ⟨vs, H1, I1, r1, q1⟩ => ?_) hs rfl
  obtain ⟨a, xs, rfl, hT, hl, q⟩ := q1
  obtain ⟨its, rv, p', hz⟩ := I1.tuple hT
  have pT : s1.heap.IsTuple a its.toArray := p'
  rw [Vals.ref1 r1]
  refine DLT.call_set_texts xs (I1.ok.hd hc) pT (by exact rv.strs) (Nat.lt_trans (Nat.succ_lt_succ hl) (by decide)) fun h' tk hA hk => ?_
  obtain ⟨D, l, ho, FT, nd, hm, hle⟩ := hA
  refine Calls.spliced_nil ?_
  have I2 : Inv X pins σ H1 { s1 with heap := h', toks := tk } := I1.kept (t' := tk) hk
  obtain ⟨s2, hs2⟩ : ∃ s2 : Shared, s2 = { s1 with heap := h', toks := tk } := ⟨_, rfl⟩
  rw [← hs2] at I2 ⊢
  have ho : s2.heap.get? s1.heap.objs.size = some (sObj "set" D) := by rw [hs2]; exact ho
  refine DLT.sorted_texts ho FT (I2.ok.hd hc) (by omega) fun s' p out c ys k g o hp hg hi hpm hso => ?_
  have hlen : (ys.map V.str).length ≤ sizeLine := by rw [List.length_map, hpm.length_eq, sizeLine_eq]; omega
  have hn : H1 p = none := I2.hok.fresh hp
  have J : Inv X pins σ (upd H1 p (.lst (ys.map V.str))) { s2 with heap := s'.heap, gens := s'.gens, drawn := s'.drawn, toks := s'.toks } :=
    I2.call (ch := []) (Un.laid k hp hn) (I2.hok.laid k hp ⟨hlen, out.toList, c, vals_of_strs hi, hg⟩) (by rw [g]; exact I2.bare) (fun _ z => nomatch z)
  have e : s' = { s2 with heap := s'.heap, gens := s'.gens, drawn := s'.drawn, toks := s'.toks } := by
    cases s'
    clear hs2 ho I2 J
    cases s2
    cases o
    rfl
  rw [e]
  refine ⟨.ref p, _, J, rfl, q ys p (hpm.nodup_iff.mpr nd) (fun j => ?_) hso hn⟩
  rw [hpm.mem_iff, hm j, List.take_length]
/-- sorted(set(t)), t a tuple of texts -/
def dSortSet (te : DE) : DA := fun Γ S Q => te Γ S fun x S1 => match x with
  | .tup ds => ∃ ss, strsOf ds = some ss ∧ ss.length < 63 ∧ ∀ ys : List Str, ys.Nodup → (∀ k, k ∈ ys ↔ k ∈ ss) → sortedS ys = true → Q (ys.map D.str) S1
  | _ => False
section
variable {X : Cx} {B : Bs} {e : Expr} {te : DE} {p1 p2 pos pos2 : Pos}
theorem pf_sortSet (hc : X.calm = true) (hg1 : Gl X "sorted") (hm1 : X.mg "sorted" = none) (hg2 : Gl X "set") (hm2 : X.mg "set" = none) (he : PD X B e te)
    (hs : starEach [e] X.env = (false, eval e X.env) :: starEach [] X.env := by rfl)
    (h1 : starEach [.Call (.Name "set" p2) [e] [] pos2] X.env = (false, eval (.Call (.Name "set" p2) [e] [] pos2) X.env) :: starEach [] X.env := by rfl) :
    PF X B (.Call (.Name "sorted" p1) [.Call (.Name "set" p2) [e] [] pos2] [] pos) (dSortSet te) := PE.weak (pe_sortSet hc hg1 hm1 hg2 hm2 (pa_cons he pa_nil hs) hs h1) fun σ H Q h => by
  obtain ⟨Z, S, Γ, fp, ofp, P, r, h, q⟩ := h
  refine ⟨Z, S, Γ, fp, ofp, _, r, h, fun d S1 h1 Z1 H1 fp1 v1 r1 l1 dv1 => ?_⟩
  cases dv1 with
  | tup k1 d1 =>
    obtain ⟨ss, e1, hl, h1⟩ := h1
    rw [strsOf_eq e1] at d1
    rw [DVs.of_strs d1] at k1
    refine ⟨_, ss, rfl, same_sqT r1.fr k1, hl, fun ys p nd hm so hp => ?_⟩
    obtain ⟨n1, n2, n3, n4⟩ := r1.fresh hp
    exact q _ S1 (h1 ys nd hm so) Z1 _ fp1 p _ (r1.grow hp) (l1.trans (r1.up0 hp)) upd_same (DVs.strs ys) n3 n1 n2 (l1.there _ hp)
  | _ => exact False.elim h1
end
end DL
namespace DL.K03
open PySem PySem.Spec PyProof.Rows L2
/-! ### the text -/
def topS (i : Nat) : Stmt := PySem.Challenge.pw_namehouse_k03_records_and_their_order.main.body.getD i (.Pass ⟨0, 0, 0, 0⟩)
abbrev st_p_is_plain : Stmt := topS 15
abbrev N_p_is_plain : List Str := [("thing" : Str), ("sign" : Str)]
abbrev ps_p_is_plain : List Str := [("thing" : Str)]
theorem sc_p_is_plain : FnScope N_p_is_plain ps_p_is_plain (defScope st_p_is_plain) := ⟨rfl, rfl, rfl, by decide +kernel, rfl, by decide +kernel, by decide +kernel⟩
abbrev st_p_is_label : Stmt := topS 16
abbrev N_p_is_label : List Str := [("thing" : Str)]
abbrev ps_p_is_label : List Str := [("thing" : Str)]
theorem sc_p_is_label : FnScope N_p_is_label ps_p_is_label (defScope st_p_is_label) := ⟨rfl, rfl, rfl, by decide +kernel, rfl, by decide +kernel, by decide +kernel⟩
abbrev st_p_is_name : Stmt := topS 17
abbrev N_p_is_name : List Str := [("thing" : Str), ("label" : Str)]
abbrev ps_p_is_name : List Str := [("thing" : Str)]
theorem sc_p_is_name : FnScope N_p_is_name ps_p_is_name (defScope st_p_is_name) := ⟨rfl, rfl, rfl, by decide +kernel, rfl, by decide +kernel, by decide +kernel⟩
abbrev st_p_is_starless : Stmt := topS 18
abbrev N_p_is_starless : List Str := [("thing" : Str)]
abbrev ps_p_is_starless : List Str := [("thing" : Str)]
theorem sc_p_is_starless : FnScope N_p_is_starless ps_p_is_starless (defScope st_p_is_starless) := ⟨rfl, rfl, rfl, by decide +kernel, rfl, by decide +kernel, by decide +kernel⟩
abbrev st_p_name_rank : Stmt := topS 19
abbrev N_p_name_rank : List Str := [("name" : Str)]
abbrev ps_p_name_rank : List Str := [("name" : Str)]
theorem sc_p_name_rank : FnScope N_p_name_rank ps_p_name_rank (defScope st_p_name_rank) := ⟨rfl, rfl, rfl, by decide +kernel, rfl, by decide +kernel, by decide +kernel⟩
abbrev st_p_is_among : Stmt := topS 29
abbrev N_p_is_among : List Str := [("thing" : Str), ("least" : Str), ("most" : Str)]
abbrev ps_p_is_among : List Str := [("thing" : Str), ("least" : Str), ("most" : Str)]
theorem sc_p_is_among : FnScope N_p_is_among ps_p_is_among (defScope st_p_is_among) := ⟨rfl, rfl, rfl, by decide +kernel, rfl, by decide +kernel, by decide +kernel⟩
abbrev st_p_is_kind : Stmt := topS 30
abbrev N_p_is_kind : List Str := [("thing" : Str)]
abbrev ps_p_is_kind : List Str := [("thing" : Str)]
theorem sc_p_is_kind : FnScope N_p_is_kind ps_p_is_kind (defScope st_p_is_kind) := ⟨rfl, rfl, rfl, by decide +kernel, rfl, by decide +kernel, by decide +kernel⟩
abbrev st_p_is_live : Stmt := topS 31
abbrev N_p_is_live : List Str := [("thing" : Str)]
abbrev ps_p_is_live : List Str := [("thing" : Str)]
theorem sc_p_is_live : FnScope N_p_is_live ps_p_is_live (defScope st_p_is_live) := ⟨rfl, rfl, rfl, by decide +kernel, rfl, by decide +kernel, by decide +kernel⟩
abbrev st_p_is_words : Stmt := topS 32
abbrev N_p_is_words : List Str := [("thing" : Str), ("sign" : Str)]
abbrev ps_p_is_words : List Str := [("thing" : Str)]
theorem sc_p_is_words : FnScope N_p_is_words ps_p_is_words (defScope st_p_is_words) := ⟨rfl, rfl, rfl, by decide +kernel, rfl, by decide +kernel, by decide +kernel⟩
abbrev st_p_is_top : Stmt := topS 33
abbrev N_p_is_top : List Str := [("thing" : Str)]
abbrev ps_p_is_top : List Str := [("thing" : Str)]
theorem sc_p_is_top : FnScope N_p_is_top ps_p_is_top (defScope st_p_is_top) := ⟨rfl, rfl, rfl, by decide +kernel, rfl, by decide +kernel, by decide +kernel⟩
abbrev st_p_is_seal : Stmt := topS 34
abbrev N_p_is_seal : List Str := [("thing" : Str)]
abbrev ps_p_is_seal : List Str := [("thing" : Str)]
theorem sc_p_is_seal : FnScope N_p_is_seal ps_p_is_seal (defScope st_p_is_seal) := ⟨rfl, rfl, rfl, by decide +kernel, rfl, by decide +kernel, by decide +kernel⟩
abbrev st_p_is_gap : Stmt := topS 35
abbrev N_p_is_gap : List Str := [("thing" : Str), ("at" : Str), ("kind" : Str)]
abbrev ps_p_is_gap : List Str := [("thing" : Str)]
theorem sc_p_is_gap : FnScope N_p_is_gap ps_p_is_gap (defScope st_p_is_gap) := ⟨rfl, rfl, rfl, by decide +kernel, rfl, by decide +kernel, by decide +kernel⟩
abbrev st_p_is_data : Stmt := topS 36
abbrev N_p_is_data : List Str := [("kind" : Str), ("thing" : Str)]
abbrev ps_p_is_data : List Str := [("kind" : Str), ("thing" : Str)]
theorem sc_p_is_data : FnScope N_p_is_data ps_p_is_data (defScope st_p_is_data) := ⟨rfl, rfl, rfl, by decide +kernel, rfl, by decide +kernel, by decide +kernel⟩
abbrev st_p_is_record : Stmt := topS 37
abbrev N_p_is_record : List Str := [("thing" : Str)]
abbrev ps_p_is_record : List Str := [("thing" : Str)]
theorem sc_p_is_record : FnScope N_p_is_record ps_p_is_record (defScope st_p_is_record) := ⟨rfl, rfl, rfl, by decide +kernel, rfl, by decide +kernel, by decide +kernel⟩
abbrev st_p_data_rank : Stmt := topS 38
abbrev N_p_data_rank : List Str := [("kind" : Str), ("data" : Str)]
abbrev ps_p_data_rank : List Str := [("kind" : Str), ("data" : Str)]
theorem sc_p_data_rank : FnScope N_p_data_rank ps_p_data_rank (defScope st_p_data_rank) := ⟨rfl, rfl, rfl, by decide +kernel, rfl, by decide +kernel, by decide +kernel⟩
abbrev st_p_record_rank : Stmt := topS 39
abbrev N_p_record_rank : List Str := [("record" : Str), ("name" : Str), ("kind" : Str), ("live" : Str), ("data" : Str)]
abbrev ps_p_record_rank : List Str := [("record" : Str)]
theorem sc_p_record_rank : FnScope N_p_record_rank ps_p_record_rank (defScope st_p_record_rank) := ⟨rfl, rfl, rfl, by decide +kernel, rfl, by decide +kernel, by decide +kernel⟩
abbrev st_p_are_records : Stmt := topS 40
abbrev N_p_are_records : List Str := [("thing" : Str), ("record" : Str)]
abbrev ps_p_are_records : List Str := [("thing" : Str)]
theorem sc_p_are_records : FnScope N_p_are_records ps_p_are_records (defScope st_p_are_records) := ⟨rfl, rfl, rfl, by decide +kernel, rfl, by decide +kernel, by decide +kernel⟩
abbrev st_p_in_order : Stmt := topS 41
abbrev N_p_in_order : List Str := [("records" : Str)]
abbrev ps_p_in_order : List Str := [("records" : Str)]
theorem sc_p_in_order : FnScope N_p_in_order ps_p_in_order (defScope st_p_in_order) := ⟨rfl, rfl, rfl, by decide +kernel, rfl, by decide +kernel, by decide +kernel⟩
abbrev st_p_ordered : Stmt := topS 42
abbrev N_p_ordered : List Str := [("records" : Str)]
abbrev ps_p_ordered : List Str := [("records" : Str)]
theorem sc_p_ordered : FnScope N_p_ordered ps_p_ordered (defScope st_p_ordered) := ⟨rfl, rfl, rfl, by decide +kernel, rfl, by decide +kernel, by decide +kernel⟩
abbrev st_cell_at : Stmt := topS 44
abbrev N_cell_at : List Str := [("_law_script" : Str), ("_law_k" : Str)]
abbrev ps_cell_at : List Str := [("_law_script" : Str), ("_law_k" : Str)]
theorem sc_cell_at : FnScope N_cell_at ps_cell_at (defScope st_cell_at) := ⟨rfl, rfl, rfl, by decide +kernel, rfl, by decide +kernel, by decide +kernel⟩
abbrev st_next : Stmt := topS 45
abbrev N_next : List Str := [("_law_state" : Str), ("_law_k" : Str), ("_law_cell" : Str)]
abbrev ps_next : List Str := [("_law_state" : Str)]
theorem sc_next : FnScope N_next ps_next (defScope st_next) := ⟨rfl, rfl, rfl, by decide +kernel, rfl, by decide +kernel, by decide +kernel⟩
abbrev st_great : Stmt := topS 46
abbrev N_great : List Str := [("_law_state" : Str), ("_law_most" : Str), ("_law_number" : Str), ("_law_wide" : Str)]
abbrev ps_great : List Str := [("_law_state" : Str), ("_law_most" : Str)]
theorem sc_great : FnScope N_great ps_great (defScope st_great) := ⟨rfl, rfl, rfl, by decide +kernel, rfl, by decide +kernel, by decide +kernel⟩
abbrev st_signs : Stmt := topS 47
abbrev N_signs : List Str := []
abbrev ps_signs : List Str := []
theorem sc_signs : FnScope N_signs ps_signs (defScope st_signs) := ⟨rfl, rfl, rfl, by decide +kernel, rfl, by decide +kernel, by decide +kernel⟩
abbrev st_label : Stmt := topS 48
abbrev N_label : List Str := [("_law_number" : Str), ("_law_size" : Str), ("_law_signs_here" : Str), ("_law_k" : Str)]
abbrev ps_label : List Str := [("_law_number" : Str), ("_law_size" : Str)]
theorem sc_label : FnScope N_label ps_label (defScope st_label) := ⟨rfl, rfl, rfl, by decide +kernel, rfl, by decide +kernel, by decide +kernel⟩
abbrev st_labels : Stmt := topS 49
abbrev N_labels : List Str := [("_law_state" : Str), ("_law_base" : Str), ("_law_found" : Str), ("_law_turn" : Str), ("_law_number" : Str), ("_law_sign" : Str), ("_law_size" : Str), ("_law_at" : Str)]
abbrev ps_labels : List Str := [("_law_state" : Str)]
theorem sc_labels : FnScope N_labels ps_labels (defScope st_labels) := ⟨rfl, rfl, rfl, by decide +kernel, rfl, by decide +kernel, by decide +kernel⟩
abbrev st_name : Stmt := topS 50
abbrev N_name : List Str := [("_law_state" : Str), ("_law_labels_here" : Str), ("_law_number" : Str), ("_law_many" : Str), ("_law_found" : Str), ("_law_turn" : Str)]
abbrev ps_name : List Str := [("_law_state" : Str), ("_law_labels_here" : Str)]
theorem sc_name : FnScope N_name ps_name (defScope st_name) := ⟨rfl, rfl, rfl, by decide +kernel, rfl, by decide +kernel, by decide +kernel⟩
abbrev st_plain : Stmt := topS 51
abbrev N_plain : List Str := [("_law_state" : Str), ("_law_labels_here" : Str), ("_law_found" : Str)]
abbrev ps_plain : List Str := [("_law_state" : Str), ("_law_labels_here" : Str)]
theorem sc_plain : FnScope N_plain ps_plain (defScope st_plain) := ⟨rfl, rfl, rfl, by decide +kernel, rfl, by decide +kernel, by decide +kernel⟩
abbrev st_text : Stmt := topS 52
abbrev N_text : List Str := [("_law_number" : Str), ("_law_size" : Str), ("_law_signs_here" : Str), ("_law_many" : Str), ("_law_k" : Str)]
abbrev ps_text : List Str := [("_law_number" : Str), ("_law_size" : Str)]
theorem sc_text : FnScope N_text ps_text (defScope st_text) := ⟨rfl, rfl, rfl, by decide +kernel, rfl, by decide +kernel, by decide +kernel⟩
abbrev st_kinds : Stmt := topS 53
abbrev N_kinds : List Str := []
abbrev ps_kinds : List Str := []
theorem sc_kinds : FnScope N_kinds ps_kinds (defScope st_kinds) := ⟨rfl, rfl, rfl, by decide +kernel, rfl, by decide +kernel, by decide +kernel⟩
abbrev st_data : Stmt := topS 54
abbrev N_data : List Str := [("_law_state" : Str), ("_law_kind" : Str), ("_law_labels_here" : Str), ("_law_number" : Str), ("_law_over" : Str), ("_law_drawn" : Str), ("_law_one" : Str)]
abbrev ps_data : List Str := [("_law_state" : Str), ("_law_kind" : Str), ("_law_labels_here" : Str)]
theorem sc_data : FnScope N_data ps_data (defScope st_data) := ⟨rfl, rfl, rfl, by decide +kernel, rfl, by decide +kernel, by decide +kernel⟩
abbrev st_record : Stmt := topS 55
abbrev N_record : List Str := [("_law_state" : Str), ("_law_labels_here" : Str), ("_law_kind" : Str)]
abbrev ps_record : List Str := [("_law_state" : Str), ("_law_labels_here" : Str)]
theorem sc_record : FnScope N_record ps_record (defScope st_record) := ⟨rfl, rfl, rfl, by decide +kernel, rfl, by decide +kernel, by decide +kernel⟩
abbrev st_before : Stmt := topS 56
abbrev N_before : List Str := [("_law_one" : Str), ("_law_other" : Str), ("_law_k" : Str)]
abbrev ps_before : List Str := [("_law_one" : Str), ("_law_other" : Str)]
theorem sc_before : FnScope N_before ps_before (defScope st_before) := ⟨rfl, rfl, rfl, by decide +kernel, rfl, by decide +kernel, by decide +kernel⟩
abbrev st_among : Stmt := topS 57
abbrev N_among : List Str := [("_law_thing" : Str), ("_law_least" : Str), ("_law_most" : Str)]
abbrev ps_among : List Str := [("_law_thing" : Str), ("_law_least" : Str), ("_law_most" : Str)]
theorem sc_among : FnScope N_among ps_among (defScope st_among) := ⟨rfl, rfl, rfl, by decide +kernel, rfl, by decide +kernel, by decide +kernel⟩
abbrev st_is_name : Stmt := topS 58
abbrev N_is_name : List Str := [("_law_thing" : Str), ("_law_with_star" : Str), ("_law_k" : Str), ("_law_label_here" : Str), ("_law_is_star" : Str), ("_law_sign" : Str)]
abbrev ps_is_name : List Str := [("_law_thing" : Str), ("_law_with_star" : Str)]
theorem sc_is_name : FnScope N_is_name ps_is_name (defScope st_is_name) := ⟨rfl, rfl, rfl, by decide +kernel, rfl, by decide +kernel, by decide +kernel⟩
abbrev st_is_kind : Stmt := topS 59
abbrev N_is_kind : List Str := [("_law_thing" : Str)]
abbrev ps_is_kind : List Str := [("_law_thing" : Str)]
theorem sc_is_kind : FnScope N_is_kind ps_is_kind (defScope st_is_kind) := ⟨rfl, rfl, rfl, by decide +kernel, rfl, by decide +kernel, by decide +kernel⟩
abbrev st_is_data : Stmt := topS 60
abbrev N_is_data : List Str := [("_law_kind" : Str), ("_law_thing" : Str), ("_law_good" : Str), ("_law_one" : Str)]
abbrev ps_is_data : List Str := [("_law_kind" : Str), ("_law_thing" : Str)]
theorem sc_is_data : FnScope N_is_data ps_is_data (defScope st_is_data) := ⟨rfl, rfl, rfl, by decide +kernel, rfl, by decide +kernel, by decide +kernel⟩
abbrev st_is_record : Stmt := topS 61
abbrev N_is_record : List Str := [("_law_thing" : Str)]
abbrev ps_is_record : List Str := [("_law_thing" : Str)]
theorem sc_is_record : FnScope N_is_record ps_is_record (defScope st_is_record) := ⟨rfl, rfl, rfl, by decide +kernel, rfl, by decide +kernel, by decide +kernel⟩
abbrev st_odd : Stmt := topS 62
abbrev N_odd : List Str := [("_law_number" : Str), ("_law_thing" : Str), ("_law_some_here" : Str)]
abbrev ps_odd : List Str := [("_law_number" : Str), ("_law_thing" : Str)]
theorem sc_odd : FnScope N_odd ps_odd (defScope st_odd) := ⟨rfl, rfl, rfl, by decide +kernel, rfl, by decide +kernel, by decide +kernel⟩
abbrev st_spoilt : Stmt := topS 63
abbrev N_spoilt : List Str := [("_law_state" : Str), ("_law_thing" : Str), ("_law_number" : Str), ("_law_at" : Str)]
abbrev ps_spoilt : List Str := [("_law_state" : Str), ("_law_thing" : Str)]
theorem sc_spoilt : FnScope N_spoilt ps_spoilt (defScope st_spoilt) := ⟨rfl, rfl, rfl, by decide +kernel, rfl, by decide +kernel, by decide +kernel⟩
abbrev st_less : Stmt := topS 64
abbrev N_less : List Str := [("_law_kind" : Str), ("_law_one" : Str), ("_law_other" : Str)]
abbrev ps_less : List Str := [("_law_kind" : Str), ("_law_one" : Str), ("_law_other" : Str)]
theorem sc_less : FnScope N_less ps_less (defScope st_less) := ⟨rfl, rfl, rfl, by decide +kernel, rfl, by decide +kernel, by decide +kernel⟩
abbrev st_ahead : Stmt := topS 65
abbrev N_ahead : List Str := [("_law_one" : Str), ("_law_other" : Str)]
abbrev ps_ahead : List Str := [("_law_one" : Str), ("_law_other" : Str)]
theorem sc_ahead : FnScope N_ahead ps_ahead (defScope st_ahead) := ⟨rfl, rfl, rfl, by decide +kernel, rfl, by decide +kernel, by decide +kernel⟩
abbrev st_sorted : Stmt := topS 66
abbrev N_sorted : List Str := [("_law_records" : Str), ("_law_found" : Str), ("_law_record_here" : Str), ("_law_at" : Str)]
abbrev ps_sorted : List Str := [("_law_records" : Str)]
theorem sc_sorted : FnScope N_sorted ps_sorted (defScope st_sorted) := ⟨rfl, rfl, rfl, by decide +kernel, rfl, by decide +kernel, by decide +kernel⟩
abbrev st_some : Stmt := topS 67
abbrev N_some : List Str := [("_law_state" : Str), ("_law_labels_here" : Str), ("_law_found" : Str), ("_law_turn" : Str), ("_law_record_here" : Str), ("_law_number" : Str), ("_law_old" : Str), ("_law_others" : Str)]
abbrev ps_some : List Str := [("_law_state" : Str), ("_law_labels_here" : Str)]
theorem sc_some : FnScope N_some ps_some (defScope st_some) := ⟨rfl, rfl, rfl, by decide +kernel, rfl, by decide +kernel, by decide +kernel⟩
abbrev st_word : Stmt := topS 68
abbrev N_word : List Str := [("_law_things" : Str), ("_law_caught" : Str), ("e" : Str), ("_law_others" : Str)]
abbrev ps_word : List Str := [("_law_things" : Str)]
theorem sc_word : FnScope N_word ps_word (defScope st_word) := ⟨rfl, rfl, rfl, by decide +kernel, rfl, by decide +kernel, by decide +kernel⟩
abbrev st_law : Stmt := topS 69
abbrev N_law : List Str := [("_law_script" : Str), ("_law_state" : Str), ("_law_labels_here" : Str), ("_law_records" : Str), ("_law_due" : Str), ("_law_handed" : Str), ("_law_found" : Str), ("_law_turn" : Str), ("_law_record_here" : Str), ("_law_thing" : Str), ("_law_seen" : Str), ("_law_number" : Str), ("_law_at" : Str)]
abbrev ps_law : List Str := [("_law_script" : Str)]
theorem sc_law : FnScope N_law ps_law (defScope st_law) := ⟨rfl, rfl, rfl, by decide +kernel, rfl, by decide +kernel, by decide +kernel⟩
/-- what the top has written -/
structure Txt (K : PySem.W.Frag) (mg : Str → Option Value) (c_BadRecord c_HouseError c_BadName c_BadLine c_BadLetter c_BadChange c_BadZone c_BadTurn c_BadRow k_KINDS : Addr) : Prop where
  m_isinstance : mg "isinstance" = none
  m_str : mg "str" = none
  m_len : mg "len" = none
  m_MOST_SIGNS : ∃ t, mg "MOST_SIGNS" = some (.int 8 t)
  m_all : mg "all" = none
  m_SIGNS : ∃ t, mg "SIGNS" = some (.str ("abcdefghijklmnopqrstuvwxyz0123456789-" : Str) t)
  m_STAR : ∃ t, mg "STAR" = some (.str ("*" : Str) t)
  m_tuple : mg "tuple" = none
  m_MOST_LABELS : ∃ t, mg "MOST_LABELS" = some (.int 6 t)
  m_reversed : mg "reversed" = none
  m_int : mg "int" = none
  m_bool : mg "bool" = none
  m_KINDS : mg "KINDS" = some (.ref k_KINDS)
  t_KINDS : KTup K k_KINDS [.str ("addr" : Str), .str ("text" : Str), .str ("keeper" : Str), .str ("other" : Str), .str ("top" : Str), .str ("key" : Str), .str ("trust" : Str), .str ("seal" : Str), .str ("gap" : Str)]
  m_MOST_LIVE : ∃ t, mg "MOST_LIVE" = some (.int 1000000 t)
  m_MOST_TEXT : ∃ t, mg "MOST_TEXT" = some (.int 30 t)
  m_ord : mg "ord" = none
  m_PERCENT : ∃ t, mg "PERCENT" = some (.int 37 t)
  m_MOST_VERSION : ∃ t, mg "MOST_VERSION" = some (.int 4294967295 t)
  m_MOST_KEY : ∃ t, mg "MOST_KEY" = some (.int 1000000000000 t)
  m_MOST_SUM : ∃ t, mg "MOST_SUM" = some (.int 1000000006 t)
  m_range : mg "range" = none
  m_MOST_ADDR : ∃ t, mg "MOST_ADDR" = some (.int 18446744073709551615 t)
  m_list : mg "list" = none
  m_sorted : mg "sorted" = none
  m_BadRecord : mg "BadRecord" = some (.ref c_BadRecord)
  x_BadRecord : ExcD K mg "BadRecord" c_BadRecord
  m_max : mg "max" = none
  m_enumerate : mg "enumerate" = none
  m_set : mg "set" = none
  m_HouseError : mg "HouseError" = some (.ref c_HouseError)
  m_BadName : mg "BadName" = some (.ref c_BadName)
  m_BadLine : mg "BadLine" = some (.ref c_BadLine)
  m_BadLetter : mg "BadLetter" = some (.ref c_BadLetter)
  m_BadChange : mg "BadChange" = some (.ref c_BadChange)
  m_BadZone : mg "BadZone" = some (.ref c_BadZone)
  m_BadTurn : mg "BadTurn" = some (.ref c_BadTurn)
  m_BadRow : mg "BadRow" = some (.ref c_BadRow)
  m_ValueError : mg "ValueError" = none
/-! ### plain functions -/
abbrev cSIGNS : Str := ("abcdefghijklmnopqrstuvwxyz0123456789-" : Str)
def signOk (c : Nat) : Bool := decide (c ∈ cSIGNS.cps.toList)
def plainS (s : Str) : Bool := decide (1 ≤ (s.length : Int)) && decide ((s.length : Int) ≤ 8) && s.cps.toList.all signOk
def plainD : D → Bool
  | .str s => plainS s
  | _ => false
def labelD : D → Bool
  | .str s => plainS s || (s == ("*" : Str))
  | _ => false
def nameD : D → Bool
  | .tup ds => decide (ds.length ≤ 6) && ((ds.take 1).all labelD && (ds.drop 1).all plainD)
  | _ => false
/-- the labels of a text -/
def partsOf (s : Str) : D := .tup ((Txt.split (cutS s none (some (-1))) ("." : Str)).map D.str)
def nameOfD : D → Option D
  | .str s => if (cutS s (some (-1)) none == ("." : Str)) = true then (if (s == ("." : Str)) = true then some (.tup []) else if nameD (partsOf s) = true then some (partsOf s) else none) else none
  | _ => none
def lblT : D → Str
  | .str s => s
  | _ => ("" : Str)
def textS (ds : List D) : Str := if ds.isEmpty then ("." : Str) else Txt.join ("" : Str) (ds.map fun d => lblT d ++ ("." : Str))
def textD : D → D
  | .tup ds => .str (textS ds)
  | _ => .non
def lenD : D → Int
  | .tup ds => ds.length
  | _ => 0
def belowD : D → D → Bool
  | .tup a, .tup b => if decide ((b.length : Int) ≤ a.length) = true then eqD (.tup (cutL a (some ((a.length : Int) - b.length)) none)) (.tup b) else false
  | _, _ => false
def starD : D → D
  | .tup a => .tup ([.str ("*" : Str)] ++ cutL a (some 1) none)
  | _ => .non
def goodLabelD (x : D) (b : Bool) : Bool := plainD x || (b && labelD x)
/-! ### the state of the draws -/
def Dr (n : Int) (S : Sto) : Prop := ∃ cs : List D, (∀ c ∈ cs, ∃ i, c = .int i) ∧ cs.length ≤ 63 ∧ ∃ j : Int, 0 ≤ j ∧ j ≤ n ∧ ∃ t, S = .dct [("cells" : Str), ("at" : Str)] [.lst cs, .int j] :: t
/-- n draws more -/
def isName (d : D) : Prop := nameD d = true
def Lb (d : D) : Prop := plainD d = true
def Lbs (d : D) : Prop := ∃ a b c e f, d = .lst [a, b, c, e, f] ∧ Lb a ∧ Lb b ∧ Lb c ∧ Lb e ∧ Lb f
/-! ### promises -/
abbrev g_p_is_plain : DSpec := fn1 (fun x => okD x = true) fun x => .bl (plainD x)
abbrev g_p_is_label : DSpec := fn1 (fun x => okD x = true) fun x => .bl (labelD x)
abbrev g_p_is_name : DSpec := fn1 (fun x => okD x = true) fun x => .bl (nameD x)
def g_p_need_name (c : Addr) : DSpec := fun ds S P EP => match ds with
  | [x] => okD x = true ∧ (nameD x = true → P (.d .non) S) ∧ (nameD x = false → EP (.ref c) S)
  | _ => False
/-- a value, or the error -/
def orErr (c : Addr) (r : Option D) (S : Sto) (P : W → Sto → Prop) (EP : Value → Sto → Prop) : Prop := (∀ x, r = some x → P (.d x) S) ∧ (r = none → EP (.ref c) S)
def g_p_name_of (c : Addr) : DSpec := fun ds S P EP => match ds with
  | [x] => okD x = true ∧ orErr c (nameOfD x) S P EP
  | _ => False
def g_p_text_of (c : Addr) : DSpec := fun ds S P EP => match ds with
  | [x] => okD x = true ∧ orErr c (if nameD x = true then some (textD x) else none) S P EP
  | _ => False
def nameLike : D → Prop
  | .tup ds => ds.length ≤ 1000 ∧ cmpOk (.tup ds)
  | _ => False
abbrev g_p_is_below : DSpec := fn2 (fun x y => nameD x = true ∧ nameD y = true) fun x y => .bl (belowD x y)
def g_p_below (c : Addr) : DSpec := fun ds S P EP => match ds with
  | [x, y] => okD x = true ∧ okD y = true ∧ orErr c (if nameD x = true ∧ nameD y = true then some (.bl (belowD x y)) else none) S P EP
  | _ => False
def g_p_star_of (c : Addr) : DSpec := fun ds S P EP => match ds with
  | [x] => okD x = true ∧ orErr c (if nameD x = true ∧ lenD x ≠ 0 then some (starD x) else none) S P EP
  | _ => False
/-- a number of the script -/
def g_cell_at : DSpec := fun ds S P _ => match ds with
  | [.lst cs, .int k] => ((∀ c ∈ cs, ∃ i, c = .int i) ∧ 0 ≤ k) ∧ ∀ i : Int, P (.d (.int i)) S
  | _ => False
def g_next : DSpec := fun ds S P _ => match ds with
  | [.ref 0] => ∃ n, Dr n S ∧ n < 1000000000 ∧ ∀ r S', Dr (n + 1) S' → 0 ≤ r → r < 268435456 → P (.d (.int r)) S'
  | _ => False
abbrev g_signs : DSpec := fn0 (.str cSIGNS)
def g_label : DSpec := fun ds S P _ => match ds with
  | [.int n, .int 8] => ∀ s : Str, s.length = 8 → s.cps.toList.all signOk = true → P (.d (.str s)) S
  | _ => False
def g_labels : DSpec := fun ds S P _ => match ds with
  | [.ref 0] => ∃ n, Dr n S ∧ n < 900000000 ∧ ∀ l S', Lbs l → Dr (n + 5) S' → P (.d l) S'
  | _ => False
def g_name : DSpec := fun ds S P _ => match ds with
  | [.ref 0, l] => ∃ n, Dr n S ∧ n < 900000000 ∧ Lbs l ∧ ∀ x S', isName x → Dr (n + 7) S' → P (.d x) S'
  | _ => False
/-- what names are ordered by -/
def rankD : D → D
  | .tup ds => .tup ds.reverse
  | x => x
abbrev g_p_name_rank : DSpec := fn1 (fun x => ∃ ds, x = .tup ds) rankD
/-- rows of texts, the first difference -/
def sLex : List Str → List Str → Bool
  | [], [] => false
  | [], _ :: _ => true
  | _ :: _, [] => false
  | x :: xs, y :: ys => if x = y then sLex xs ys else strLt x y
def lblsOf : D → List Str
  | .tup ds => ds.map lblT
  | _ => []
/-- whether a name stands ahead of another one -/
def befD (x y : D) : Bool := sLex (lblsOf x).reverse (lblsOf y).reverse
abbrev g_before : DSpec := fn2 (fun x y => nameD x = true ∧ nameD y = true) fun x y => .bl (befD x y)
/-! ### records -/
def kinds9 : List Str := [("addr" : Str), ("text" : Str), ("keeper" : Str), ("other" : Str), ("top" : Str), ("key" : Str), ("trust" : Str), ("seal" : Str), ("gap" : Str)]
def kindsD : D := .tup (kinds9.map D.str)
def amongD (x : D) (a b : Int) : Bool := match x with
  | .int i => decide (a ≤ i) && decide (i ≤ b)
  | _ => false
def kindD : D → Bool
  | .str s => decide (s ∈ kinds9)
  | _ => false
abbrev liveD (x : D) : Bool := amongD x 0 1000000
def starlessD (x : D) : Bool := nameD x && match x with
  | .tup ds => !eqD (.tup (ds.take 1)) (.tup [.str ("*" : Str)])
  | _ => false
def printOk (c : Nat) : Bool := decide (32 ≤ c) && decide (c ≤ 126) && decide (c ≠ 37)
def wordsD : D → Bool
  | .str s => decide ((s.length : Int) ≤ 30) && s.cps.toList.all printOk
  | _ => false
def topD : D → Bool
  | .tup [a, b] => amongD a 0 4294967295 && liveD b
  | _ => false
def sealD : D → Bool
  | .tup [a, b, c] => kindD a && !eqD a (.str ("seal" : Str)) && amongD b 1 1000000000000 && amongD c 0 1000000006
  | _ => false
/-- texts, each one ahead of the next -/
def rising : List D → Bool
  | .str a :: .str b :: r => strLt a b && rising (.str b :: r)
  | _ => true
def gapD : D → Bool
  | .tup [a, .tup ks] => nameD a && ks.all kindD && rising ks
  | _ => false
def dataD (k : Str) (x : D) : Bool :=
  if k = ("addr" : Str) then amongD x 0 18446744073709551615 else if k = ("text" : Str) then wordsD x else if k = ("keeper" : Str) ∨ k = ("other" : Str) then starlessD x
  else if k = ("top" : Str) then topD x else if k = ("seal" : Str) then sealD x else if k = ("gap" : Str) then gapD x else amongD x 1 1000000000000
def recD : D → Bool
  | .tup [n, .str k, l, d] => nameD n && kindD (.str k) && liveD l && dataD k d
  | _ => false
def recsD : D → Bool
  | .lst ds => ds.all recD
  | _ => false
/-- what a record's data are ordered by -/
def drD (k : Str) (d : D) : D :=
  if k = ("keeper" : Str) ∨ k = ("other" : Str) then rankD d else if k = ("gap" : Str) then (match d with
    | .tup [a, b] => .tup [rankD a, b]
    | d => d) else d
def rrD : D → D
  | .tup [n, .str k, l, d] => .tup [rankD n, .str k, drD k d, l]
  | d => d
mutual
/-- rows of at most 60, all through -/
def smD : D → Bool
  | .tup ds | .lst ds => decide (ds.length ≤ 60) && smDs ds
  | _ => true
def smDs : List D → Bool
  | [] => true
  | d :: ds => smD d && smDs ds
end
abbrev Gd (x : D) : Prop := okD x = true ∧ smD x = true
/-! ### promises: the program's -/
abbrev g_p_is_starless : DSpec := fn1 (fun x => okD x = true) fun x => .bl (starlessD x)
def g_p_is_among : DSpec := fun ds S P _ => match ds with
  | [x, .int a, .int b] => okD x = true ∧ P (.d (.bl (amongD x a b))) S
  | _ => False
abbrev g_p_is_kind : DSpec := fn1 (fun x => okD x = true) fun x => .bl (kindD x)
abbrev g_p_is_live : DSpec := fn1 (fun x => okD x = true) fun x => .bl (liveD x)
abbrev g_p_is_words : DSpec := fn1 (fun x => okD x = true) fun x => .bl (wordsD x)
abbrev g_p_is_top : DSpec := fn1 (fun x => okD x = true) fun x => .bl (topD x)
abbrev g_p_is_seal : DSpec := fn1 (fun x => okD x = true) fun x => .bl (sealD x)
abbrev g_p_is_gap : DSpec := fn1 Gd fun x => .bl (gapD x)
def g_p_is_data : DSpec := fun ds S P _ => match ds with
  | [.str k, x] => (kindD (.str k) = true ∧ Gd x) ∧ P (.d (.bl (dataD k x))) S
  | _ => False
abbrev g_p_is_record : DSpec := fn1 Gd fun x => .bl (recD x)
def g_p_data_rank : DSpec := fun ds S P _ => match ds with
  | [.str k, x] => (dataD k x = true) ∧ P (.d (drD k x)) S
  | _ => False
abbrev g_p_record_rank : DSpec := fn1 (fun x => recD x = true) rrD
abbrev g_p_are_records : DSpec := fn1 (fun x => okD x = true ∧ ∀ ns, x = .lst ns → sz ns.length ∧ ∀ d ∈ ns, Gd d) fun x => .bl (recsD x)
def g_p_in_order : DSpec := fun ds S P _ => match ds with
  | [.lst rs] => (rs.all recD = true ∧ sz rs.length) ∧ P (.own (sortD rrD rs)) S
  | _ => False
def g_p_ordered (c : Addr) : DSpec := fun ds S P EP => match ds with
  | [x] => (okD x = true ∧ ∀ ns, x = .lst ns → sz ns.length ∧ ∀ d ∈ ns, Gd d) ∧ (∀ rs, x = .lst rs → rs.all recD = true → P (.own (sortD rrD rs)) S) ∧ (recsD x = false → EP (.ref c) S)
  | _ => False
/-! ### promises: the law's -/
def g_great : DSpec := fun ds S P _ => match ds with
  | [.ref 0, .int m] => (0 < m ∧ m < 2 ^ 70) ∧ ∃ n, Dr n S ∧ n < 900000000 ∧ ∀ r S', 0 ≤ r → r ≤ m → Dr (n + 3) S' → P (.d (.int r)) S'
  | _ => False
def g_plain : DSpec := fun ds S P _ => match ds with
  | [.ref 0, l] => ∃ n, Dr n S ∧ n < 900000000 ∧ Lbs l ∧ ∀ x S', starlessD x = true → Dr (n + 7) S' → P (.d x) S'
  | _ => False
def g_text : DSpec := fun ds S P _ => match ds with
  | [.int a, .int z] => (0 ≤ z ∧ z ≤ 30) ∧ ∀ x, wordsD x = true → P (.d x) S
  | _ => False
abbrev g_kinds : DSpec := fn0 kindsD
def g_data : DSpec := fun ds S P _ => match ds with
  | [.ref 0, .str k, l] => ∃ n, Dr n S ∧ n < 800000000 ∧ Lbs l ∧ kindD (.str k) = true ∧ ∀ x S', dataD k x = true → Dr (n + 30) S' → P (.d x) S'
  | _ => False
def g_record : DSpec := fun ds S P _ => match ds with
  | [.ref 0, l] => ∃ n, Dr n S ∧ n < 700000000 ∧ Lbs l ∧ ∀ x S', recD x = true → Dr (n + 50) S' → P (.d x) S'
  | _ => False
def g_among : DSpec := fun ds S P _ => match ds with
  | [x, .int a, .int b] => okD x = true ∧ P (.d (.bl (amongD x a b))) S
  | _ => False
def g_is_name : DSpec := fun ds S P _ => match ds with
  | [x, .bl b] => okD x = true ∧ P (.d (.bl (if b then nameD x else starlessD x))) S
  | _ => False
abbrev g_is_kind : DSpec := fn1 (fun x => okD x = true) fun x => .bl (kindD x)
mutual
/-- each text in it is one that can be printed -/
def inkD : D → Bool
  | .str s => s.cps.toList.all printOk
  | .tup ds | .lst ds => inkDs ds
  | _ => true
def inkDs : List D → Bool
  | [] => true
  | d :: ds => inkD d && inkDs ds
end
def g_is_data : DSpec := fun ds S P _ => match ds with
  | [.str k, x] => (kindD (.str k) = true ∧ Gd x ∧ inkD x = true) ∧ ∀ t, P (.d (.bl (dataD k x))) (S ++ t)
  | _ => False
def g_is_record : DSpec := fun ds S P _ => match ds with
  | [x] => (Gd x ∧ inkD x = true) ∧ ∀ t, P (.d (.bl (recD x))) (S ++ t)
  | _ => False
/-- nested no deeper than n, rows of at most 9 -/
def deep : Nat → D → Prop
  | n, .tup ds => ds.length ≤ 9 ∧ match n with
    | 0 => False
    | n + 1 => ∀ d ∈ ds, deep n d
  | _, .lst _ => False
  | _, .edict => False
  | _, _ => True
def g_odd : DSpec := fun ds S P _ => match ds with
  | [.int a, x] => (okD x = true ∧ inkD x = true ∧ (∃ k, deep k x)) ∧ ∀ y, Gd y → inkD y = true → P (.d y) S
  | _ => False
def g_spoilt (k : Nat) : DSpec := fun ds S P _ => match ds with
  | [.ref 0, x] => ∃ n, Dr n S ∧ n + k < 700000000 ∧ (okD x = true ∧ inkD x = true ∧ deep k x ∧ k ≤ 50) ∧ ∀ y S', Gd y → inkD y = true → Dr (n + k + 1) S' → P (.d y) S'
  | _ => False
def prevG (g : Nat → DSpec) : Nat → DSpec
  | 0 => fun _ _ _ _ => False
  | n + 1 => g n
def g_less : DSpec := fun ds S P _ => match ds with
  | [.str k, x, y] => (kindD (.str k) = true ∧ dataD k x = true ∧ dataD k y = true) ∧ P (.d (.bl (ltD (drD k x) (drD k y)))) S
  | _ => False
abbrev g_ahead : DSpec := fn2 (fun x y => recD x = true ∧ recD y = true) fun x y => .bl (ltD (rrD x) (rrD y))
def g_sorted : DSpec := fun ds S P _ => match ds with
  | [.lst rs] => (rs.all recD = true ∧ rs.length ≤ 100) ∧ P (.own (sortD rrD rs)) S
  | _ => False
def g_some : DSpec := fun ds S P _ => match ds with
  | [.ref 0, l] => ∃ n, Dr n S ∧ n < 600000000 ∧ Lbs l ∧ ∀ rs S', rs.all recD = true → rs.length ≤ 9 → Dr (n + 1000) S' → P (.own rs) S'
  | _ => False
def g_word : DSpec := fun ds S P _ => match ds with
  | [x] => ((okD x = true ∧ ∀ ns, x = .lst ns → sz ns.length ∧ ∀ d ∈ ns, Gd d) ∧ recsD x = false) ∧ P (.d (.bl true)) S
  | _ => False
abbrev g_law : DSpec := fun ds S P _ => match ds with
  | [.lst cs] => ((∀ c ∈ cs, ∃ i, c = .int i) ∧ cs.length ≤ 63 ∧ S = []) ∧ ∀ S', P (.d (.bl true)) S'
  | _ => False
/-! ### the readings -/
def t_p_is_plain (K : PySem.W.Frag) (c_BadRecord c_HouseError c_BadName c_BadLine c_BadLetter c_BadChange c_BadZone c_BadTurn c_BadRow k_KINDS : Addr) (ew : EW) : DS :=
  dSeq (dIfS (dTOr (dTNot (dT (dCall (fIsi K) (dCons (dVar 0) (dCons (dC (.val (.ty "str"))) (dNil)))))) (dTNot (dT (dChain fLeS fLeS (dC (.int 1)) (dCall fLen (dCons (dVar 0) (dNil))) (dC (.int 8))))))
  (dRet (dC (.bl false)))
  (dNext))
  (dRet (dCall fAll (dCons (dFz (dComp (dWs (dVar 0)) (dgName 1) (dYes) (dOp (fIn false) (dVar 1) (dC (.str ("abcdefghijklmnopqrstuvwxyz0123456789-" : Str)))) [1])) (dNil))))
def t_p_is_label (K : PySem.W.Frag) (c_BadRecord c_HouseError c_BadName c_BadLine c_BadLetter c_BadChange c_BadZone c_BadTurn c_BadRow k_KINDS : Addr) (ew : EW) : DS :=
  dRet (dOr (dCallS g_p_is_plain ew (dCons (dVar 0) (dNil))) (dAnd (dCall (fIsi K) (dCons (dVar 0) (dCons (dC (.val (.ty "str"))) (dNil)))) (dOp fEq (dVar 0) (dC (.str ("*" : Str))))))
def t_p_is_name (K : PySem.W.Frag) (c_BadRecord c_HouseError c_BadName c_BadLine c_BadLetter c_BadChange c_BadZone c_BadTurn c_BadRow k_KINDS : Addr) (ew : EW) : DS :=
  dSeq (dIfS (dTOr (dTNot (dT (dCall (fIsi K) (dCons (dVar 0) (dCons (dC (.val (.ty "tuple"))) (dNil)))))) (dT (dOp fGt (dCall fLen (dCons (dVar 0) (dNil))) (dC (.int 6)))))
  (dRet (dC (.bl false)))
  (dNext))
  (dRet (dAnd (dCall fAll (dCons (dFz (dComp (dWt (dSl (dVar 0) (dP0) (dP1 (dC (.int 1))))) (dgName 1) (dYes) (dCallS g_p_is_label ew0 (dCons (dVar 1) (dNil))) [1])) (dNil))) (dCall fAll (dCons (dFz (dComp (dWt (dSl (dVar 0) (dP1 (dC (.int 1))) (dP0))) (dgName 1) (dYes) (dCallS g_p_is_plain ew0 (dCons (dVar 1) (dNil))) [1])) (dNil)))))
def t_p_is_starless (K : PySem.W.Frag) (c_BadRecord c_HouseError c_BadName c_BadLine c_BadLetter c_BadChange c_BadZone c_BadTurn c_BadRow k_KINDS : Addr) (ew : EW) : DS :=
  dRet (dAnd (dCallS g_p_is_name ew (dCons (dVar 0) (dNil))) (dOp fNe (dSl (dVar 0) (dP0) (dP1 (dC (.int 1)))) (dTup (dCons (dC (.str ("*" : Str))) (dNil)))))
def t_p_name_rank (K : PySem.W.Frag) (c_BadRecord c_HouseError c_BadName c_BadLine c_BadLetter c_BadChange c_BadZone c_BadTurn c_BadRow k_KINDS : Addr) (ew : EW) : DS :=
  dRet (dRevT (dVar 0))
def t_p_is_among (K : PySem.W.Frag) (c_BadRecord c_HouseError c_BadName c_BadLine c_BadLetter c_BadChange c_BadZone c_BadTurn c_BadRow k_KINDS : Addr) (ew : EW) : DS :=
  dRet (dAnd (dCall (fIsi K) (dCons (dVar 0) (dCons (dC (.val (.ty "int"))) (dNil)))) (dAnd (dNot (dCall (fIsi K) (dCons (dVar 0) (dCons (dC (.val (.ty "bool"))) (dNil))))) (dChain fLeS fLeS (dVar 1) (dVar 0) (dVar 2))))
def t_p_is_kind (K : PySem.W.Frag) (c_BadRecord c_HouseError c_BadName c_BadLine c_BadLetter c_BadChange c_BadZone c_BadTurn c_BadRow k_KINDS : Addr) (ew : EW) : DS :=
  dRet (dAnd (dCall (fIsi K) (dCons (dVar 0) (dCons (dC (.val (.ty "str"))) (dNil)))) (dOp (fIn false) (dVar 0) (dC (.tup [.str ("addr" : Str), .str ("text" : Str), .str ("keeper" : Str), .str ("other" : Str), .str ("top" : Str), .str ("key" : Str), .str ("trust" : Str), .str ("seal" : Str), .str ("gap" : Str)]))))
def t_p_is_live (K : PySem.W.Frag) (c_BadRecord c_HouseError c_BadName c_BadLine c_BadLetter c_BadChange c_BadZone c_BadTurn c_BadRow k_KINDS : Addr) (ew : EW) : DS :=
  dRet (dCallS g_p_is_among ew (dCons (dVar 0) (dCons (dC (.int 0)) (dCons (dC (.int 1000000)) (dNil)))))
def t_p_is_words (K : PySem.W.Frag) (c_BadRecord c_HouseError c_BadName c_BadLine c_BadLetter c_BadChange c_BadZone c_BadTurn c_BadRow k_KINDS : Addr) (ew : EW) : DS :=
  dSeq (dIfS (dTOr (dTNot (dT (dCall (fIsi K) (dCons (dVar 0) (dCons (dC (.val (.ty "str"))) (dNil)))))) (dT (dOp fGt (dCall fLen (dCons (dVar 0) (dNil))) (dC (.int 30)))))
  (dRet (dC (.bl false)))
  (dNext))
  (dRet (dCall fAll (dCons (dFz (dComp (dWs (dVar 0)) (dgName 1) (dYes) (dAnd (dChain fLeS fLeS (dC (.str (" " : Str))) (dVar 1) (dC (.str ("~" : Str)))) (dOp fNe (dCall fOrd (dCons (dVar 1) (dNil))) (dC (.int 37)))) [1])) (dNil))))
def t_p_is_top (K : PySem.W.Frag) (c_BadRecord c_HouseError c_BadName c_BadLine c_BadLetter c_BadChange c_BadZone c_BadTurn c_BadRow k_KINDS : Addr) (ew : EW) : DS :=
  dRet (dAnd (dCall (fIsi K) (dCons (dVar 0) (dCons (dC (.val (.ty "tuple"))) (dNil)))) (dAnd (dOp fEq (dCall fLen (dCons (dVar 0) (dNil))) (dC (.int 2))) (dAnd (dCallS g_p_is_among ew (dCons (dOp fIx (dVar 0) (dC (.int 0))) (dCons (dC (.int 0)) (dCons (dC (.int 4294967295)) (dNil))))) (dCallS g_p_is_live ew (dCons (dOp fIx (dVar 0) (dC (.int 1))) (dNil))))))
def t_p_is_seal (K : PySem.W.Frag) (c_BadRecord c_HouseError c_BadName c_BadLine c_BadLetter c_BadChange c_BadZone c_BadTurn c_BadRow k_KINDS : Addr) (ew : EW) : DS :=
  dSeq (dIfS (dTOr (dTNot (dT (dCall (fIsi K) (dCons (dVar 0) (dCons (dC (.val (.ty "tuple"))) (dNil)))))) (dTOr (dT (dOp fNe (dCall fLen (dCons (dVar 0) (dNil))) (dC (.int 3)))) (dTOr (dTNot (dT (dCallS g_p_is_kind ew (dCons (dOp fIx (dVar 0) (dC (.int 0))) (dNil))))) (dT (dOp fEq (dOp fIx (dVar 0) (dC (.int 0))) (dC (.str ("seal" : Str))))))))
  (dRet (dC (.bl false)))
  (dNext))
  (dRet (dAnd (dCallS g_p_is_among ew (dCons (dOp fIx (dVar 0) (dC (.int 1))) (dCons (dC (.int 1)) (dCons (dC (.int 1000000000000)) (dNil))))) (dCallS g_p_is_among ew (dCons (dOp fIx (dVar 0) (dC (.int 2))) (dCons (dC (.int 0)) (dCons (dC (.int 1000000006)) (dNil)))))))
def t_p_is_gap (K : PySem.W.Frag) (c_BadRecord c_HouseError c_BadName c_BadLine c_BadLetter c_BadChange c_BadZone c_BadTurn c_BadRow k_KINDS : Addr) (ew : EW) : DS :=
  dSeq (dIfS (dTOr (dTNot (dT (dCall (fIsi K) (dCons (dVar 0) (dCons (dC (.val (.ty "tuple"))) (dNil)))))) (dTOr (dT (dOp fNe (dCall fLen (dCons (dVar 0) (dNil))) (dC (.int 2)))) (dTOr (dTNot (dT (dCallS g_p_is_name ew (dCons (dOp fIx (dVar 0) (dC (.int 0))) (dNil))))) (dTNot (dT (dCall (fIsi K) (dCons (dOp fIx (dVar 0) (dC (.int 1))) (dCons (dC (.val (.ty "tuple"))) (dNil)))))))))
  (dRet (dC (.bl false)))
  (dNext))
  (dSeq (dIfS (dTNot (dT (dCall fAll (dCons (dFz (dComp (dWt (dOp fIx (dVar 0) (dC (.int 1)))) (dgName 2) (dYes) (dCallS g_p_is_kind ew0 (dCons (dVar 2) (dNil))) [2])) (dNil)))))
  (dRet (dC (.bl false)))
  (dNext))
  (dRet (dCall fAll (dCons (dFz (dComp (dRng1 (dCons (dOp fSub (dCall fLen (dCons (dOp fIx (dVar 0) (dC (.int 1))) (dNil))) (dC (.int 1))) (dNil))) (dgName 1) (dYes) (dOp fLtS (dOp fIx (dOp fIx (dVar 0) (dC (.int 1))) (dVar 1)) (dOp fIx (dOp fIx (dVar 0) (dC (.int 1))) (dOp fAdd (dVar 1) (dC (.int 1))))) [1])) (dNil)))))
def t_p_is_data (K : PySem.W.Frag) (c_BadRecord c_HouseError c_BadName c_BadLine c_BadLetter c_BadChange c_BadZone c_BadTurn c_BadRow k_KINDS : Addr) (ew : EW) : DS :=
  dSeq (dIfS (dT (dOp fEq (dVar 0) (dC (.str ("addr" : Str)))))
  (dRet (dCallS g_p_is_among ew (dCons (dVar 1) (dCons (dC (.int 0)) (dCons (dC (.int 18446744073709551615)) (dNil))))))
  (dNext))
  (dSeq (dIfS (dT (dOp fEq (dVar 0) (dC (.str ("text" : Str)))))
  (dRet (dCallS g_p_is_words ew (dCons (dVar 1) (dNil))))
  (dNext))
  (dSeq (dIfS (dTOr (dT (dOp fEq (dVar 0) (dC (.str ("keeper" : Str))))) (dT (dOp fEq (dVar 0) (dC (.str ("other" : Str))))))
  (dRet (dCallS g_p_is_starless ew (dCons (dVar 1) (dNil))))
  (dNext))
  (dSeq (dIfS (dT (dOp fEq (dVar 0) (dC (.str ("top" : Str)))))
  (dRet (dCallS g_p_is_top ew (dCons (dVar 1) (dNil))))
  (dNext))
  (dSeq (dIfS (dT (dOp fEq (dVar 0) (dC (.str ("seal" : Str)))))
  (dRet (dCallS g_p_is_seal ew (dCons (dVar 1) (dNil))))
  (dNext))
  (dSeq (dIfS (dT (dOp fEq (dVar 0) (dC (.str ("gap" : Str)))))
  (dRet (dCallS g_p_is_gap ew (dCons (dVar 1) (dNil))))
  (dNext))
  (dRet (dCallS g_p_is_among ew (dCons (dVar 1) (dCons (dC (.int 1)) (dCons (dC (.int 1000000000000)) (dNil)))))))))))
def t_p_is_record (K : PySem.W.Frag) (c_BadRecord c_HouseError c_BadName c_BadLine c_BadLetter c_BadChange c_BadZone c_BadTurn c_BadRow k_KINDS : Addr) (ew : EW) : DS :=
  dSeq (dIfS (dTOr (dTNot (dT (dCall (fIsi K) (dCons (dVar 0) (dCons (dC (.val (.ty "tuple"))) (dNil)))))) (dTOr (dT (dOp fNe (dCall fLen (dCons (dVar 0) (dNil))) (dC (.int 4)))) (dTOr (dTNot (dT (dCallS g_p_is_name ew (dCons (dOp fIx (dVar 0) (dC (.int 0))) (dNil))))) (dTNot (dT (dCallS g_p_is_kind ew (dCons (dOp fIx (dVar 0) (dC (.int 1))) (dNil))))))))
  (dRet (dC (.bl false)))
  (dNext))
  (dRet (dAnd (dCallS g_p_is_live ew (dCons (dOp fIx (dVar 0) (dC (.int 2))) (dNil))) (dCallS g_p_is_data ew (dCons (dOp fIx (dVar 0) (dC (.int 1))) (dCons (dOp fIx (dVar 0) (dC (.int 3))) (dNil))))))
def t_p_data_rank (K : PySem.W.Frag) (c_BadRecord c_HouseError c_BadName c_BadLine c_BadLetter c_BadChange c_BadZone c_BadTurn c_BadRow k_KINDS : Addr) (ew : EW) : DS :=
  dSeq (dIfS (dTOr (dT (dOp fEq (dVar 0) (dC (.str ("keeper" : Str))))) (dT (dOp fEq (dVar 0) (dC (.str ("other" : Str))))))
  (dRet (dCallS g_p_name_rank ew (dCons (dVar 1) (dNil))))
  (dNext))
  (dSeq (dIfS (dT (dOp fEq (dVar 0) (dC (.str ("gap" : Str)))))
  (dRet (dTup (dCons (dCallS g_p_name_rank ew (dCons (dOp fIx (dVar 1) (dC (.int 0))) (dNil))) (dCons (dOp fIx (dVar 1) (dC (.int 1))) (dNil)))))
  (dNext))
  (dRet (dVar 1)))
def t_p_record_rank (K : PySem.W.Frag) (c_BadRecord c_HouseError c_BadName c_BadLine c_BadLetter c_BadChange c_BadZone c_BadTurn c_BadRow k_KINDS : Addr) (ew : EW) : DS :=
  dSeq (dAsg (dgTup 4 (dgCons (dgName 1) (dgCons (dgName 2) (dgCons (dgName 3) (dgCons (dgName 4) (dgNil)))))) (dVar 0))
  (dRet (dTup (dCons (dCallS g_p_name_rank ew (dCons (dVar 1) (dNil))) (dCons (dVar 2) (dCons (dCallS g_p_data_rank ew (dCons (dVar 2) (dCons (dVar 4) (dNil)))) (dCons (dVar 3) (dNil)))))))
def t_p_are_records (K : PySem.W.Frag) (c_BadRecord c_HouseError c_BadName c_BadLine c_BadLetter c_BadChange c_BadZone c_BadTurn c_BadRow k_KINDS : Addr) (ew : EW) : DS :=
  dRet (dAnd (dCall (fIsi K) (dCons (dVar 0) (dCons (dC (.val (.ty "list"))) (dNil)))) (dCall fAll (dCons (dFz (dComp (dWl (dVar 0)) (dgName 1) (dYes) (dCallS g_p_is_record ew0 (dCons (dVar 1) (dNil))) [1])) (dNil))))
def t_p_in_order (K : PySem.W.Frag) (c_BadRecord c_HouseError c_BadName c_BadLine c_BadLetter c_BadChange c_BadZone c_BadTurn c_BadRow k_KINDS : Addr) (ew : EW) : DS :=
  dRetF (dSortK g_p_record_rank rrD (dVar 0))
def t_p_ordered (K : PySem.W.Frag) (c_BadRecord c_HouseError c_BadName c_BadLine c_BadLetter c_BadChange c_BadZone c_BadTurn c_BadRow k_KINDS : Addr) (ew : EW) : DS :=
  dSeq (dIfS (dTNot (dT (dCallS g_p_are_records ew (dCons (dVar 0) (dNil)))))
  (dRaise ew (.ref c_BadRecord))
  (dNext))
  (dRetF (dCallSF g_p_in_order ew (dCons (dVar 0) (dNil))))
def t_cell_at (K : PySem.W.Frag) (c_BadRecord c_HouseError c_BadName c_BadLine c_BadLetter c_BadChange c_BadZone c_BadTurn c_BadRow k_KINDS : Addr) (ew : EW) : DS :=
  dSeq (dIfS (dT (dOp fLtS (dVar 1) (dCall fLen (dCons (dVar 0) (dNil)))))
  (dRet (dOp fIx (dVar 0) (dVar 1)))
  (dNext))
  (dRet (dC (.int 0)))
def t_next (K : PySem.W.Frag) (c_BadRecord c_HouseError c_BadName c_BadLine c_BadLetter c_BadChange c_BadZone c_BadTurn c_BadRow k_KINDS : Addr) (ew : EW) : DS :=
  dSeq (dRecSet [("cells" : Str), ("at" : Str)] 1 (dVar 0) (dOp fAdd (dRecGet [("cells" : Str), ("at" : Str)] 1 (dVar 0)) (dC (.int 1))))
  (dSeq (dSet 1 (dRecGet [("cells" : Str), ("at" : Str)] 1 (dVar 0)))
  (dSeq (dSet 2 (dCallS g_cell_at ew (dCons (dRecGet [("cells" : Str), ("at" : Str)] 0 (dVar 0)) (dCons (dOp fMod (dVar 1) (dCall fMax2 (dCons (dC (.int 1)) (dCons (dCall fLen (dCons (dRecGet [("cells" : Str), ("at" : Str)] 0 (dVar 0)) (dNil))) (dNil))))) (dNil)))))
  (dRet (dOp fDiv (dOp fMod (dOp fAdd (dOp fMul (dVar 2) (dC (.int 48271))) (dOp fMul (dOp fMul (dVar 1) (dVar 1)) (dC (.int 69621)))) (dC (.int 2147483647))) (dC (.int 8))))))
def t_great (K : PySem.W.Frag) (c_BadRecord c_HouseError c_BadName c_BadLine c_BadLetter c_BadChange c_BadZone c_BadTurn c_BadRow k_KINDS : Addr) (ew : EW) : DS :=
  dSeq (dSet 2 (dCallS g_next ew (dCons (dVar 0) (dNil))))
  (dSeq (dSet 3 (dOp fAdd (dOp fMul (dOp fAdd (dOp fMul (dVar 2) (dC (.int 268435399))) (dCallS g_next ew (dCons (dVar 0) (dNil)))) (dC (.int 268435399))) (dCallS g_next ew (dCons (dVar 0) (dNil)))))
  (dRet (dOp fIx (dFz (dLst (dCons (dC (.int 0)) (dCons (dC (.int 1)) (dCons (dVar 1) (dCons (dOp fSub (dVar 1) (dC (.int 1))) (dCons (dOp fMod (dVar 3) (dOp fAdd (dVar 1) (dC (.int 1)))) (dCons (dOp fMod (dVar 3) (dOp fAdd (dVar 1) (dC (.int 1)))) (dCons (dOp fMod (dOp fMod (dVar 2) (dC (.int 300))) (dOp fAdd (dVar 1) (dC (.int 1)))) (dNil)))))))))) (dOp fMod (dVar 2) (dC (.int 7))))))
def t_signs (K : PySem.W.Frag) (c_BadRecord c_HouseError c_BadName c_BadLine c_BadLetter c_BadChange c_BadZone c_BadTurn c_BadRow k_KINDS : Addr) (ew : EW) : DS :=
  dRet (dC (.str ("abcdefghijklmnopqrstuvwxyz0123456789-" : Str)))
def t_label (K : PySem.W.Frag) (c_BadRecord c_HouseError c_BadName c_BadLine c_BadLetter c_BadChange c_BadZone c_BadTurn c_BadRow k_KINDS : Addr) (ew : EW) : DS :=
  dSeq (dSet 2 (dCallS g_signs ew0 dNil))
  (dRet (dM1 fJoin (dC (.str ("" : Str))) (dFz (dComp (dRng1 (dCons (dVar 1) (dNil))) (dgName 3) (dYes) (dOp fIx (dVar 2) (dOp fMod (dOp fAdd (dOp fAdd (dOp fDiv (dVar 0) (dC (.int 11))) (dOp fMul (dOp fMul (dC (.int 17)) (dVar 3)) (dVar 3))) (dOp fMul (dC (.int 5)) (dVar 3))) (dC (.int 37)))) [3]))))
def t_labels (K : PySem.W.Frag) (c_BadRecord c_HouseError c_BadName c_BadLine c_BadLetter c_BadChange c_BadZone c_BadTurn c_BadRow k_KINDS : Addr) (ew : EW) : DS :=
  dSeq (dSet 1 (dCallS g_label ew (dCons (dCallS g_next ew (dCons (dVar 0) (dNil))) (dCons (dC (.int 8)) (dNil)))))
  (dSeq (dSetF 2 (dLst (dNil)))
  (dSeq (dFor (dRng1 (dCons (dC (.int 3)) (dNil))) (dgName 3)
  (dSeq (dSet 4 (dCallS g_next ew (dCons (dVar 0) (dNil))))
  (dSeq (dSet 6 (dOp fIx (dFz (dLst (dCons (dC (.int 1)) (dCons (dC (.int 8)) (dCons (dOp fAdd (dC (.int 1)) (dOp fMod (dOp fDiv (dVar 4) (dC (.int 5))) (dC (.int 8)))) (dCons (dC (.int 3)) (dCons (dC (.int 2)) (dNil)))))))) (dOp fMod (dVar 4) (dC (.int 5)))))
  (dSeq (dSet 7 (dOp fMod (dOp fDiv (dVar 4) (dC (.int 40))) (dVar 6)))
  (dSeq (dSet 5 (dOp fIx (dCallS g_signs ew0 dNil) (dOp fMod (dOp fDiv (dVar 4) (dC (.int 320))) (dC (.int 37)))))
  (dApp 2 (dOp fAdd (dOp fAdd (dSl (dVar 1) (dP0) (dP1 (dVar 7))) (dVar 5)) (dSl (dVar 1) (dP1 (dOp fAdd (dVar 7) (dC (.int 1)))) (dP1 (dVar 6))))))))))
  (dSeq (dSet 4 (dCallS g_next ew (dCons (dVar 0) (dNil))))
  (dSeq (dSet 5 (dOp fIx (dCallS g_signs ew0 dNil) (dOp fMod (dOp fDiv (dVar 4) (dC (.int 7))) (dC (.int 37)))))
  (dSeq (dApp 2 (dIf (dT (dOp fLtS (dCall fLen (dCons (dOp fIx (dVarB 2) (dC (.int 0))) (dNil))) (dC (.int 8)))) (dSl (dOp fAdd (dVar 5) (dOp fIx (dVarB 2) (dC (.int 0)))) (dP0) (dP1 (dC (.int 8)))) (dSl (dOp fIx (dVarB 2) (dC (.int 0))) (dP1 (dC (.int 1))) (dP0))))
  (dRet (dFz (dOpF fCat (dVarB 2) (dFz (dLst (dCons (dOp fAdd (dOp fAdd (dSl (dOp fIx (dVarB 2) (dOp fMod (dVar 4) (dC (.int 2)))) (dP0) (dP1 (dC (.int 6)))) (dC (.str ("-" : Str)))) (dOp fMul (dVar 5) (dOp fMod (dOp fDiv (dVar 4) (dC (.int 2))) (dC (.int 2))))) (dNil))))))))))))
def t_name (K : PySem.W.Frag) (c_BadRecord c_HouseError c_BadName c_BadLine c_BadLetter c_BadChange c_BadZone c_BadTurn c_BadRow k_KINDS : Addr) (ew : EW) : DS :=
  dSeq (dSet 2 (dCallS g_next ew (dCons (dVar 0) (dNil))))
  (dSeq (dSet 3 (dOp fIx (dFz (dLst (dCons (dC (.int 0)) (dCons (dC (.int 1)) (dCons (dC (.int 2)) (dCons (dC (.int 3)) (dCons (dC (.int 4)) (dCons (dC (.int 6)) (dCons (dC (.int 2)) (dNil)))))))))) (dOp fMod (dVar 2) (dC (.int 7)))))
  (dSeq (dSetF 4 (dComp (dRng1 (dCons (dVar 3) (dNil))) (dgName 5) (dYes) (dOp fIx (dVar 1) (dOp fMod (dCallS g_next ew0 (dCons (dVar 0) (dNil))) (dC (.int 5)))) [5]))
  (dSeq (dIfS (dTAnd (dT (dOp fNe (dVarB 4) (dFz (dLst (dNil))))) (dT (dOp fEq (dOp fMod (dOp fDiv (dVar 2) (dC (.int 7))) (dC (.int 5))) (dC (.int 0)))))
  (dIxSet 4 (dC (.int 0)) (dC (.str ("*" : Str))))
  (dNext))
  (dRet (dCall fTuple (dCons (dVarB 4) (dNil)))))))
def t_plain (K : PySem.W.Frag) (c_BadRecord c_HouseError c_BadName c_BadLine c_BadLetter c_BadChange c_BadZone c_BadTurn c_BadRow k_KINDS : Addr) (ew : EW) : DS :=
  dSeq (dSet 2 (dCallS g_name ew (dCons (dVar 0) (dCons (dVar 1) (dNil)))))
  (dRet (dIf (dT (dOp fEq (dSl (dVar 2) (dP0) (dP1 (dC (.int 1)))) (dTup (dCons (dC (.str ("*" : Str))) (dNil))))) (dSl (dVar 2) (dP1 (dC (.int 1))) (dP0)) (dVar 2)))
def t_text (K : PySem.W.Frag) (c_BadRecord c_HouseError c_BadName c_BadLine c_BadLetter c_BadChange c_BadZone c_BadTurn c_BadRow k_KINDS : Addr) (ew : EW) : DS :=
  dSeq (dSet 2 (dC (.str (" !\"#$&'()*+,-./0123456789:;<=>?\u0040[\\]^_`{|}~ABCDEFGHIJKLMNOPQRSTUVWXYZabcdefghijklmnopqrstuvwxyz" : Str))))
  (dSeq (dSet 3 (dCall fLen (dCons (dVar 2) (dNil))))
  (dRet (dM1 fJoin (dC (.str ("" : Str))) (dFz (dComp (dRng1 (dCons (dVar 1) (dNil))) (dgName 4) (dYes) (dOp fIx (dVar 2) (dOp fMod (dOp fAdd (dOp fAdd (dOp fDiv (dVar 0) (dC (.int 7))) (dOp fMul (dOp fMul (dC (.int 13)) (dVar 4)) (dVar 4))) (dOp fMul (dC (.int 5)) (dVar 4))) (dVar 3))) [4])))))
def t_kinds (K : PySem.W.Frag) (c_BadRecord c_HouseError c_BadName c_BadLine c_BadLetter c_BadChange c_BadZone c_BadTurn c_BadRow k_KINDS : Addr) (ew : EW) : DS :=
  dRet (dTup (dCons (dC (.str ("addr" : Str))) (dCons (dC (.str ("text" : Str))) (dCons (dC (.str ("keeper" : Str))) (dCons (dC (.str ("other" : Str))) (dCons (dC (.str ("top" : Str))) (dCons (dC (.str ("key" : Str))) (dCons (dC (.str ("trust" : Str))) (dCons (dC (.str ("seal" : Str))) (dCons (dC (.str ("gap" : Str))) (dNil)))))))))))
def t_data (K : PySem.W.Frag) (c_BadRecord c_HouseError c_BadName c_BadLine c_BadLetter c_BadChange c_BadZone c_BadTurn c_BadRow k_KINDS : Addr) (ew : EW) : DS :=
  dSeq (dSet 3 (dCallS g_next ew (dCons (dVar 0) (dNil))))
  (dSeq (dIfS (dT (dOp fEq (dVar 1) (dC (.str ("addr" : Str)))))
  (dRet (dCallS g_great ew (dCons (dVar 0) (dCons (dOp fSub (dOp fPow (dC (.int 2)) (dC (.int 64))) (dC (.int 1))) (dNil)))))
  (dNext))
  (dSeq (dIfS (dT (dOp fEq (dVar 1) (dC (.str ("text" : Str)))))
  (dRet (dCallS g_text ew (dCons (dVar 3) (dCons (dOp fIx (dFz (dLst (dCons (dC (.int 0)) (dCons (dC (.int 30)) (dCons (dOp fMod (dOp fDiv (dVar 3) (dC (.int 7))) (dC (.int 31))) (dNil)))))) (dOp fMod (dVar 3) (dC (.int 3)))) (dNil)))))
  (dNext))
  (dSeq (dIfS (dTOr (dT (dOp fEq (dVar 1) (dC (.str ("keeper" : Str))))) (dT (dOp fEq (dVar 1) (dC (.str ("other" : Str))))))
  (dRet (dCallS g_plain ew (dCons (dVar 0) (dCons (dVar 2) (dNil)))))
  (dNext))
  (dSeq (dIfS (dT (dOp fEq (dVar 1) (dC (.str ("top" : Str)))))
  (dRet (dTup (dCons (dCallS g_great ew (dCons (dVar 0) (dCons (dOp fSub (dOp fPow (dC (.int 2)) (dC (.int 32))) (dC (.int 1))) (dNil)))) (dCons (dCallS g_great ew (dCons (dVar 0) (dCons (dOp fPow (dC (.int 10)) (dC (.int 6))) (dNil)))) (dNil)))))
  (dNext))
  (dSeq (dIfS (dT (dOp fEq (dVar 1) (dC (.str ("seal" : Str)))))
  (dSeq (dSet 4 (dOp fIx (dFz (dComp (dWt (dCallS g_kinds ew0 dNil)) (dgName 6) (dT (dOp fNe (dVar 6) (dC (.str ("seal" : Str))))) (dVar 6) [6])) (dOp fMod (dVar 3) (dC (.int 8)))))
  (dRet (dTup (dCons (dVar 4) (dCons (dOp fAdd (dC (.int 1)) (dCallS g_great ew (dCons (dVar 0) (dCons (dOp fSub (dOp fPow (dC (.int 10)) (dC (.int 12))) (dC (.int 1))) (dNil))))) (dCons (dCallS g_great ew (dCons (dVar 0) (dCons (dC (.int 1000000006)) (dNil)))) (dNil)))))))
  (dNext))
  (dSeq (dIfS (dT (dOp fEq (dVar 1) (dC (.str ("gap" : Str)))))
  (dSeq (dSetZ 5 (dComp (dWt (dCallS g_kinds ew0 dNil)) (dgName 6) (dT (dOp fEq (dOp fMod (dCallS g_next ew0 (dCons (dVar 0) (dNil))) (dC (.int 3))) (dC (.int 0)))) (dVar 6) [6]))
  (dRet (dTup (dCons (dCallS g_name ew (dCons (dVar 0) (dCons (dVar 2) (dNil)))) (dCons (dCall fTuple (dCons (dFz (dCallF fSortS (dCons (dVar 5) (dNil)))) (dNil))) (dNil))))))
  (dNext))
  (dRet (dOp fAdd (dC (.int 1)) (dCallS g_great ew (dCons (dVar 0) (dCons (dOp fSub (dOp fPow (dC (.int 10)) (dC (.int 12))) (dC (.int 1))) (dNil))))))))))))
def t_record (K : PySem.W.Frag) (c_BadRecord c_HouseError c_BadName c_BadLine c_BadLetter c_BadChange c_BadZone c_BadTurn c_BadRow k_KINDS : Addr) (ew : EW) : DS :=
  dSeq (dSet 2 (dOp fIx (dCallS g_kinds ew0 dNil) (dOp fMod (dCallS g_next ew (dCons (dVar 0) (dNil))) (dC (.int 9)))))
  (dRet (dTup (dCons (dCallS g_name ew (dCons (dVar 0) (dCons (dVar 1) (dNil)))) (dCons (dVar 2) (dCons (dCallS g_great ew (dCons (dVar 0) (dCons (dOp fPow (dC (.int 10)) (dC (.int 6))) (dNil)))) (dCons (dCallS g_data ew (dCons (dVar 0) (dCons (dVar 2) (dCons (dVar 1) (dNil))))) (dNil)))))))
def t_before (K : PySem.W.Frag) (c_BadRecord c_HouseError c_BadName c_BadLine c_BadLetter c_BadChange c_BadZone c_BadTurn c_BadRow k_KINDS : Addr) (ew : EW) : DS :=
  dSeq (dSet 2 (dC (.int 1)))
  (dSeq (dWhile (dTAnd (dT (dOp fLe (dVar 2) (dCall fLen (dCons (dVar 0) (dNil))))) (dT (dOp fLe (dVar 2) (dCall fLen (dCons (dVar 1) (dNil))))))
  (dSeq (dIfS (dT (dOp fNe (dOp fIx (dVar 0) (dNeg (dVar 2))) (dOp fIx (dVar 1) (dNeg (dVar 2)))))
  (dRet (dOp fLtS (dOp fIx (dVar 0) (dNeg (dVar 2))) (dOp fIx (dVar 1) (dNeg (dVar 2)))))
  (dNext))
  (dSet 2 (dOp fAdd (dVar 2) (dC (.int 1))))))
  (dRet (dOp fLtS (dCall fLen (dCons (dVar 0) (dNil))) (dCall fLen (dCons (dVar 1) (dNil))))))
def t_among (K : PySem.W.Frag) (c_BadRecord c_HouseError c_BadName c_BadLine c_BadLetter c_BadChange c_BadZone c_BadTurn c_BadRow k_KINDS : Addr) (ew : EW) : DS :=
  dRet (dAnd (dCall (fIsi K) (dCons (dVar 0) (dCons (dC (.val (.ty "int"))) (dNil)))) (dAnd (dNot (dCall (fIsi K) (dCons (dVar 0) (dCons (dC (.val (.ty "bool"))) (dNil))))) (dChain fLeS fLeS (dVar 1) (dVar 0) (dVar 2))))
def t_is_name (K : PySem.W.Frag) (c_BadRecord c_HouseError c_BadName c_BadLine c_BadLetter c_BadChange c_BadZone c_BadTurn c_BadRow k_KINDS : Addr) (ew : EW) : DS :=
  dSeq (dIfS (dTOr (dTNot (dT (dCall (fIsi K) (dCons (dVar 0) (dCons (dC (.val (.ty "tuple"))) (dNil)))))) (dT (dOp fGt (dCall fLen (dCons (dVar 0) (dNil))) (dC (.int 6)))))
  (dRet (dC (.bl false)))
  (dNext))
  (dSeq (dFor (dEnT (dVar 0)) (dgTup 2 (dgCons (dgName 2) (dgCons (dgName 3) (dgNil))))
  (dSeq (dIfS (dTOr (dTNot (dT (dCall (fIsi K) (dCons (dVar 3) (dCons (dC (.val (.ty "str"))) (dNil)))))) (dTNot (dT (dChain fLe fLe (dC (.int 1)) (dCall fLen (dCons (dVar 3) (dNil))) (dC (.int 8))))))
  (dRet (dC (.bl false)))
  (dNext))
  (dSeq (dSet 4 (dAnd (dVar 1) (dAnd (dOp fEq (dVar 2) (dC (.int 0))) (dOp fEq (dVar 3) (dC (.str ("*" : Str)))))))
  (dIfS (dTAnd (dT (dOp fNe (dFz (dComp (dWs (dVar 3)) (dgName 5) (dT (dOp (fIn true) (dVar 5) (dCallS g_signs ew0 dNil))) (dVar 5) [5])) (dFz (dLst (dNil))))) (dTNot (dT (dVar 4))))
  (dRet (dC (.bl false)))
  (dNext)))))
  (dRet (dC (.bl true))))
def t_is_kind (K : PySem.W.Frag) (c_BadRecord c_HouseError c_BadName c_BadLine c_BadLetter c_BadChange c_BadZone c_BadTurn c_BadRow k_KINDS : Addr) (ew : EW) : DS :=
  dRet (dAnd (dCall (fIsi K) (dCons (dVar 0) (dCons (dC (.val (.ty "str"))) (dNil)))) (dOp (fIn false) (dVar 0) (dCallS g_kinds ew0 dNil)))
def t_is_data (K : PySem.W.Frag) (c_BadRecord c_HouseError c_BadName c_BadLine c_BadLetter c_BadChange c_BadZone c_BadTurn c_BadRow k_KINDS : Addr) (ew : EW) : DS :=
  dSeq (dIfS (dT (dOp fEq (dVar 0) (dC (.str ("addr" : Str)))))
  (dRet (dCallS g_among ew (dCons (dVar 1) (dCons (dC (.int 0)) (dCons (dOp fSub (dOp fPow (dC (.int 2)) (dC (.int 64))) (dC (.int 1))) (dNil))))))
  (dNext))
  (dSeq (dIfS (dT (dOp fEq (dVar 0) (dC (.str ("text" : Str)))))
  (dRet (dAnd (dCall (fIsi K) (dCons (dVar 1) (dCons (dC (.val (.ty "str"))) (dNil)))) (dOp fLe (dCall fLen (dCons (dVar 1) (dNil))) (dC (.int 30)))))
  (dNext))
  (dSeq (dIfS (dTOr (dT (dOp fEq (dVar 0) (dC (.str ("keeper" : Str))))) (dT (dOp fEq (dVar 0) (dC (.str ("other" : Str))))))
  (dRet (dCallS g_is_name ew (dCons (dVar 1) (dCons (dC (.bl false)) (dNil)))))
  (dNext))
  (dSeq (dIfS (dTOr (dT (dOp fEq (dVar 0) (dC (.str ("key" : Str))))) (dT (dOp fEq (dVar 0) (dC (.str ("trust" : Str))))))
  (dRet (dCallS g_among ew (dCons (dVar 1) (dCons (dC (.int 1)) (dCons (dOp fPow (dC (.int 10)) (dC (.int 12))) (dNil))))))
  (dNext))
  (dSeq (dIfS (dTOr (dTNot (dT (dCall (fIsi K) (dCons (dVar 1) (dCons (dC (.val (.ty "tuple"))) (dNil)))))) (dT (dOp fNe (dCall fLen (dCons (dVar 1) (dNil))) (dDctIx [("top" : Str), ("seal" : Str), ("gap" : Str)] (dDisp ((("top" : Str), dC (.int 2)) :: (("seal" : Str), dC (.int 3)) :: (("gap" : Str), dC (.int 2)) :: [])) (dVar 0)))))
  (dRet (dC (.bl false)))
  (dNext))
  (dSeq (dIfS (dT (dOp fEq (dVar 0) (dC (.str ("top" : Str)))))
  (dRet (dAnd (dCallS g_among ew (dCons (dOp fIx (dVar 1) (dC (.int 0))) (dCons (dC (.int 0)) (dCons (dOp fSub (dOp fPow (dC (.int 2)) (dC (.int 32))) (dC (.int 1))) (dNil))))) (dCallS g_among ew (dCons (dOp fIx (dVar 1) (dC (.int 1))) (dCons (dC (.int 0)) (dCons (dOp fPow (dC (.int 10)) (dC (.int 6))) (dNil)))))))
  (dNext))
  (dSeq (dIfS (dT (dOp fEq (dVar 0) (dC (.str ("seal" : Str)))))
  (dSeq (dSet 2 (dAnd (dCallS g_is_kind ew (dCons (dOp fIx (dVar 1) (dC (.int 0))) (dNil))) (dAnd (dOp fNe (dOp fIx (dVar 1) (dC (.int 0))) (dC (.str ("seal" : Str)))) (dCallS g_among ew (dCons (dOp fIx (dVar 1) (dC (.int 1))) (dCons (dC (.int 1)) (dCons (dOp fPow (dC (.int 10)) (dC (.int 12))) (dNil))))))))
  (dRet (dAnd (dVar 2) (dCallS g_among ew (dCons (dOp fIx (dVar 1) (dC (.int 2))) (dCons (dC (.int 0)) (dCons (dC (.int 1000000006)) (dNil))))))))
  (dNext))
  (dSeq (dIfS (dTOr (dTNot (dT (dCallS g_is_name ew (dCons (dOp fIx (dVar 1) (dC (.int 0))) (dCons (dC (.bl true)) (dNil)))))) (dTNot (dT (dCall (fIsi K) (dCons (dOp fIx (dVar 1) (dC (.int 1))) (dCons (dC (.val (.ty "tuple"))) (dNil)))))))
  (dRet (dC (.bl false)))
  (dNext))
  (dRet (dAnd (dCall fAll (dCons (dFz (dComp (dWt (dOp fIx (dVar 1) (dC (.int 1)))) (dgName 3) (dYes) (dCallS g_is_kind ew0 (dCons (dVar 3) (dNil))) [3])) (dNil))) (dOp fEq (dFz (dCallF fList (dCons (dOp fIx (dVar 1) (dC (.int 1))) (dNil)))) (dFz (dSortSet (dOp fIx (dVar 1) (dC (.int 1)))))))))))))))
def t_is_record (K : PySem.W.Frag) (c_BadRecord c_HouseError c_BadName c_BadLine c_BadLetter c_BadChange c_BadZone c_BadTurn c_BadRow k_KINDS : Addr) (ew : EW) : DS :=
  dSeq (dIfS (dTOr (dTNot (dT (dCall (fIsi K) (dCons (dVar 0) (dCons (dC (.val (.ty "tuple"))) (dNil)))))) (dTOr (dT (dOp fNe (dCall fLen (dCons (dVar 0) (dNil))) (dC (.int 4)))) (dTNot (dT (dCallS g_is_name ew (dCons (dOp fIx (dVar 0) (dC (.int 0))) (dCons (dC (.bl true)) (dNil))))))))
  (dRet (dC (.bl false)))
  (dNext))
  (dRet (dAnd (dCallS g_is_kind ew (dCons (dOp fIx (dVar 0) (dC (.int 1))) (dNil))) (dAnd (dCallS g_among ew (dCons (dOp fIx (dVar 0) (dC (.int 2))) (dCons (dC (.int 0)) (dCons (dOp fPow (dC (.int 10)) (dC (.int 6))) (dNil))))) (dCallS g_is_data ew (dCons (dOp fIx (dVar 0) (dC (.int 1))) (dCons (dOp fIx (dVar 0) (dC (.int 3))) (dNil)))))))
def t_odd (K : PySem.W.Frag) (c_BadRecord c_HouseError c_BadName c_BadLine c_BadLetter c_BadChange c_BadZone c_BadTurn c_BadRow k_KINDS : Addr) (ew : EW) : DS :=
  dSeq (dSet 2 (dFz (dLst (dCons (dC .non) (dCons (dC (.bl true)) (dCons (dNeg (dC (.int 1))) (dCons (dC (.str ("" : Str))) (dCons (dOp fAdd (dOp fPow (dC (.int 10)) (dC (.int 6))) (dC (.int 1))) (dCons (dOp fPow (dC (.int 2)) (dC (.int 64))) (dCons (dOp fAdd (dOp fPow (dC (.int 10)) (dC (.int 12))) (dC (.int 1))) (dCons (dC (.int 0)) (dCons (dOp fMul (dC (.str ("a" : Str))) (dC (.int 31))) (dNil)))))))))))))
  (dSeq (dSet 2 (dFz (dOpF fCat (dVar 2) (dFz (dLst (dCons (dTup (dCons (dC (.str ("a" : Str))) (dNil))) (dCons (dTup (dCons (dC (.str ("*" : Str))) (dNil))) (dCons (dTup (dNil)) (dCons (dFz (dLst (dNil))) (dCons (dC .edict) (dCons (dC (.str ("seal" : Str))) (dNil))))))))))))
  (dSeq (dSet 2 (dFz (dOpF fCat (dVar 2) (dFz (dLst (dCons (dOp fPow (dC (.int 2)) (dC (.int 32))) (dCons (dC (.int 1000000007)) (dCons (dTup (dCons (dC (.str ("a" : Str))) (dCons (dC (.str ("*" : Str))) (dNil)))) (dCons (dTup (dCons (dC (.str ("addr" : Str))) (dCons (dC (.str ("addr" : Str))) (dNil)))) (dCons (dTup (dCons (dC (.str ("text" : Str))) (dCons (dC (.str ("addr" : Str))) (dNil)))) (dNil)))))))))))
  (dSeq (dIfS (dT (dCall (fIsi K) (dCons (dVar 1) (dCons (dC (.val (.ty "tuple"))) (dNil)))))
  (dSet 2 (dFz (dOpF fCat (dVar 2) (dFz (dOpF fRepL (dFz (dLst (dCons (dFz (dCallF fList (dCons (dVar 1) (dNil)))) (dCons (dOp fAdd (dVar 1) (dSl (dVar 1) (dP1 (dNeg (dC (.int 1)))) (dP0))) (dCons (dSl (dVar 1) (dP0) (dP1 (dNeg (dC (.int 1))))) (dNil)))))) (dC (.int 2)))))))
  (dNext))
  (dSeq (dIfS (dT (dCallS g_among ew (dCons (dVar 1) (dCons (dC (.int 0)) (dCons (dOp fPow (dC (.int 2)) (dC (.int 64))) (dNil))))))
  (dSet 2 (dFz (dOpF fCat (dVar 2) (dFz (dLst (dCons (dOp fAdd (dVar 1) (dC (.int 1))) (dCons (dOp fSub (dVar 1) (dC (.int 1))) (dCons (dNeg (dVar 1)) (dCons (dCall fStrI (dCons (dOp fMod (dVar 0) (dC (.int 1000))) (dNil))) (dNil))))))))))
  (dNext))
  (dRet (dOp fIx (dVar 2) (dOp fMod (dVar 0) (dCall fLen (dCons (dVar 2) (dNil))))))))))
def t_spoilt (K : PySem.W.Frag) (c_BadRecord c_HouseError c_BadName c_BadLine c_BadLetter c_BadChange c_BadZone c_BadTurn c_BadRow k_KINDS : Addr) (gs : DSpec) (ew : EW) : DS :=
  dSeq (dSet 2 (dCallS g_next ew (dCons (dVar 0) (dNil))))
  (dSeq (dIfS (dTOr (dTNot (dT (dCall (fIsi K) (dCons (dVar 1) (dCons (dC (.val (.ty "tuple"))) (dNil)))))) (dTOr (dT (dOp fEq (dVar 1) (dTup (dNil)))) (dT (dOp fEq (dOp fMod (dVar 2) (dC (.int 5))) (dC (.int 0))))))
  (dRet (dCallS g_odd ew (dCons (dOp fDiv (dVar 2) (dC (.int 5))) (dCons (dVar 1) (dNil)))))
  (dNext))
  (dSeq (dSet 3 (dOp fMod (dOp fDiv (dVar 2) (dC (.int 5))) (dCall fLen (dCons (dVar 1) (dNil)))))
  (dRet (dOp fAdd (dOp fAdd (dSl (dVar 1) (dP0) (dP1 (dVar 3))) (dTup (dCons (dCallS gs ew (dCons (dVar 0) (dCons (dOp fIx (dVar 1) (dVar 3)) (dNil)))) (dNil)))) (dSl (dVar 1) (dP1 (dOp fAdd (dVar 3) (dC (.int 1)))) (dP0))))))
def t_less (K : PySem.W.Frag) (c_BadRecord c_HouseError c_BadName c_BadLine c_BadLetter c_BadChange c_BadZone c_BadTurn c_BadRow k_KINDS : Addr) (ew : EW) : DS :=
  dSeq (dIfS (dTOr (dT (dOp fEq (dVar 0) (dC (.str ("keeper" : Str))))) (dT (dOp fEq (dVar 0) (dC (.str ("other" : Str))))))
  (dRet (dCallS g_before ew (dCons (dVar 1) (dCons (dVar 2) (dNil)))))
  (dNext))
  (dSeq (dIfS (dTAnd (dT (dOp fEq (dVar 0) (dC (.str ("gap" : Str))))) (dT (dOp fNe (dOp fIx (dVar 1) (dC (.int 0))) (dOp fIx (dVar 2) (dC (.int 0))))))
  (dRet (dCallS g_before ew (dCons (dOp fIx (dVar 1) (dC (.int 0))) (dCons (dOp fIx (dVar 2) (dC (.int 0))) (dNil)))))
  (dNext))
  (dSeq (dIfS (dT (dOp fEq (dVar 0) (dC (.str ("gap" : Str)))))
  (dRet (dOp fLtA (dOp fIx (dVar 1) (dC (.int 1))) (dOp fIx (dVar 2) (dC (.int 1)))))
  (dNext))
  (dRet (dOp fLtA (dVar 1) (dVar 2)))))
def t_ahead (K : PySem.W.Frag) (c_BadRecord c_HouseError c_BadName c_BadLine c_BadLetter c_BadChange c_BadZone c_BadTurn c_BadRow k_KINDS : Addr) (ew : EW) : DS :=
  dSeq (dIfS (dT (dOp fNe (dOp fIx (dVar 0) (dC (.int 0))) (dOp fIx (dVar 1) (dC (.int 0)))))
  (dRet (dCallS g_before ew (dCons (dOp fIx (dVar 0) (dC (.int 0))) (dCons (dOp fIx (dVar 1) (dC (.int 0))) (dNil)))))
  (dNext))
  (dSeq (dIfS (dT (dOp fNe (dOp fIx (dVar 0) (dC (.int 1))) (dOp fIx (dVar 1) (dC (.int 1)))))
  (dRet (dOp fLtS (dOp fIx (dVar 0) (dC (.int 1))) (dOp fIx (dVar 1) (dC (.int 1)))))
  (dNext))
  (dSeq (dIfS (dT (dOp fNe (dOp fIx (dVar 0) (dC (.int 3))) (dOp fIx (dVar 1) (dC (.int 3)))))
  (dRet (dCallS g_less ew (dCons (dOp fIx (dVar 0) (dC (.int 1))) (dCons (dOp fIx (dVar 0) (dC (.int 3))) (dCons (dOp fIx (dVar 1) (dC (.int 3))) (dNil))))))
  (dNext))
  (dRet (dOp fLtS (dOp fIx (dVar 0) (dC (.int 2))) (dOp fIx (dVar 1) (dC (.int 2)))))))
def t_sorted (K : PySem.W.Frag) (c_BadRecord c_HouseError c_BadName c_BadLine c_BadLetter c_BadChange c_BadZone c_BadTurn c_BadRow k_KINDS : Addr) (ew : EW) : DS :=
  dSeq (dSetF 1 (dLst (dNil)))
  (dSeq (dFor (dWl (dVar 0)) (dgName 2)
  (dSeq (dSet 3 (dCall fLen (dCons (dVarB 1) (dNil))))
  (dSeq (dWhile (dTAnd (dT (dOp fGt (dVar 3) (dC (.int 0)))) (dT (dCallS g_ahead ew (dCons (dVar 2) (dCons (dOp fIx (dVarB 1) (dOp fSub (dVar 3) (dC (.int 1)))) (dNil))))))
  (dSet 3 (dOp fSub (dVar 3) (dC (.int 1)))))
  (dIns 1 (dVar 3) (dVar 2)))))
  (dRetO 1))
def t_some (K : PySem.W.Frag) (c_BadRecord c_HouseError c_BadName c_BadLine c_BadLetter c_BadChange c_BadZone c_BadTurn c_BadRow k_KINDS : Addr) (ew : EW) : DS :=
  dSeq (dSetF 2 (dLst (dNil)))
  (dSeq (dFor (dRng1 (dCons (dOp fMod (dCallS g_next ew (dCons (dVar 0) (dNil))) (dC (.int 10))) (dNil))) (dgName 3)
  (dSeq (dSet 4 (dCallS g_record ew (dCons (dVar 0) (dCons (dVar 1) (dNil)))))
  (dSeq (dSet 5 (dCallS g_next ew (dCons (dVar 0) (dNil))))
  (dSeq (dIfS (dTAnd (dT (dOp fNe (dVarB 2) (dFz (dLst (dNil))))) (dT (dOp fEq (dOp fMod (dVar 5) (dC (.int 2))) (dC (.int 0)))))
  (dSeq (dSet 6 (dOp fIx (dVarB 2) (dOp fMod (dOp fDiv (dVar 5) (dC (.int 2))) (dCall fLen (dCons (dVarB 2) (dNil))))))
  (dSeq (dSetF 7 (dLst (dCons (dVar 6) (dCons (dTup (dCons (dOp fIx (dVar 6) (dC (.int 0))) (dCons (dOp fIx (dVar 6) (dC (.int 1))) (dCons (dOp fIx (dVar 4) (dC (.int 2))) (dCons (dOp fIx (dVar 6) (dC (.int 3))) (dNil)))))) (dCons (dOp fAdd (dTup (dCons (dOp fIx (dVar 4) (dC (.int 0))) (dNil))) (dSl (dVar 6) (dP1 (dC (.int 1))) (dP0))) (dNil))))))
  (dSeq (dApp 7 (dTup (dCons (dOp fIx (dVar 6) (dC (.int 0))) (dCons (dOp fIx (dVar 6) (dC (.int 1))) (dCons (dOp fIx (dVar 6) (dC (.int 2))) (dCons (dCallS g_data ew (dCons (dVar 0) (dCons (dOp fIx (dVar 6) (dC (.int 1))) (dCons (dVar 1) (dNil))))) (dNil)))))))
  (dSet 4 (dOp fIx (dVarB 7) (dOp fMod (dOp fDiv (dVar 5) (dC (.int 30))) (dC (.int 4))))))))
  (dNext))
  (dApp 2 (dVar 4))))))
  (dRetO 2))
def t_word (K : PySem.W.Frag) (c_BadRecord c_HouseError c_BadName c_BadLine c_BadLetter c_BadChange c_BadZone c_BadTurn c_BadRow k_KINDS : Addr) (ew : EW) : DS :=
  dSeq (dSet 1 (dC .non))
  (dSeq (dTry K (.ref c_HouseError) 2 (fun ewT => dDrop (dCallS (g_p_ordered c_BadRecord) ewT (dCons (dVar 0) (dNil))))
  (dSet 1 (dVar 2)) ew)
  (dSeq (dSet 3 (dCall (fIsi K) (dCons (dVar 1) (dCons (dTup (dCons (dC (.val (.ref c_BadChange))) (dCons (dC (.val (.ref c_BadLetter))) (dCons (dC (.val (.ref c_BadLine))) (dCons (dC (.val (.ref c_BadName))) (dNil)))))) (dNil)))))
  (dSeq (dSet 3 (dOr (dVar 3) (dCall (fIsi K) (dCons (dVar 1) (dCons (dTup (dCons (dC (.val (.ref c_BadRow))) (dCons (dC (.val (.ref c_BadTurn))) (dCons (dC (.val (.ref c_BadZone))) (dNil))))) (dNil))))))
  (dRet (dAnd (dCall (fIsi K) (dCons (dVar 1) (dCons (dC (.val (.ref c_BadRecord))) (dNil)))) (dAnd (dCall (fIsi K) (dCons (dVar 1) (dCons (dC (.val (.ty "ValueError"))) (dNil)))) (dNot (dVar 3))))))))
def t_law (K : PySem.W.Frag) (c_BadRecord c_HouseError c_BadName c_BadLine c_BadLetter c_BadChange c_BadZone c_BadTurn c_BadRow k_KINDS : Addr) (ew : EW) : DS :=
  dSeq (dSet 1 (dDisp ((("cells" : Str), dVar 0) :: (("at" : Str), dC (.int 0)) :: [])))
  (dSeq (dSet 2 (dCallS g_labels ew (dCons (dVar 1) (dNil))))
  (dSeq (dIfS (dTOr (dTNot (dT (dCall (fIsi K) (dCons (dC (.tup [.str ("addr" : Str), .str ("text" : Str), .str ("keeper" : Str), .str ("other" : Str), .str ("top" : Str), .str ("key" : Str), .str ("trust" : Str), .str ("seal" : Str), .str ("gap" : Str)])) (dCons (dC (.val (.ty "tuple"))) (dNil)))))) (dT (dOp fNe (dC (.tup [.str ("addr" : Str), .str ("text" : Str), .str ("keeper" : Str), .str ("other" : Str), .str ("top" : Str), .str ("key" : Str), .str ("trust" : Str), .str ("seal" : Str), .str ("gap" : Str)])) (dCallS g_kinds ew0 dNil))))
  (dRet (dC (.bl false)))
  (dNext))
  (dSeq (dSet 3 (dCallS g_some ew (dCons (dVar 1) (dCons (dVar 2) (dNil)))))
  (dSeq (dSet 4 (dCallS g_sorted ew (dCons (dVar 3) (dNil))))
  (dSeq (dSet 5 (dFz (dCallF fList (dCons (dVar 3) (dNil)))))
  (dSeq (dSetF 6 (dCallSF (g_p_ordered c_BadRecord) ew (dCons (dVar 5) (dNil))))
  (dSeq (dIfS (dTOr (dTNot (dT (dCall (fIsi K) (dCons (dVarB 6) (dCons (dC (.val (.ty "list"))) (dNil)))))) (dTOr (dT (dOp fNe (dVarB 6) (dVar 4))) (dTOr (dT (dOp fNe (dVar 5) (dVar 3))) (dT (dOp fNe (dCallS (g_p_ordered c_BadRecord) ew (dCons (dFz (dRevL (dVar 3))) (dNil))) (dVar 4))))))
  (dRet (dC (.bl false)))
  (dNext))
  (dSeq (dApp 6 (dC .non))
  (dSeq (dIfS (dT (dOp fNe (dCallS (g_p_ordered c_BadRecord) ew (dCons (dVar 5) (dNil))) (dVar 4)))
  (dRet (dC (.bl false)))
  (dNext))
  (dSeq (dFor (dRng1 (dCons (dC (.int 4)) (dNil))) (dgName 7)
  (dSeq (dSet 8 (dCallS g_record ew (dCons (dVar 1) (dCons (dVar 2) (dNil)))))
  (dSeq (dSet 9 (dCallS (g_spoilt 3) ew (dCons (dVar 1) (dCons (dVar 8) (dNil)))))
  (dSeq (dSet 10 (dCallS g_p_is_record ew (dCons (dVar 9) (dNil))))
  (dSeq (dIfS (dTOr (dT (dOp fNotB (dCallS g_p_is_record ew (dCons (dVar 8) (dNil))) (dC (.bl true)))) (dTOr (dTNot (dT (dCall (fIsi K) (dCons (dVar 10) (dCons (dC (.val (.ty "bool"))) (dNil)))))) (dT (dOp fNe (dVar 10) (dCallS g_is_record ew (dCons (dVar 9) (dNil)))))))
  (dRet (dC (.bl false)))
  (dNext))
  (dSeq (dSet 11 (dCallS g_next ew (dCons (dVar 1) (dNil))))
  (dSeq (dSet 12 (dOp fMod (dVar 11) (dOp fAdd (dCall fLen (dCons (dVar 3) (dNil))) (dC (.int 1)))))
  (dIfS (dTAnd (dTNot (dT (dVar 10))) (dTNot (dT (dCallS g_word ew (dCons (dFz (dOpF fCat (dFz (dOpF fCat (dSl (dVar 3) (dP0) (dP1 (dVar 12))) (dFz (dLst (dCons (dVar 9) (dNil)))))) (dSl (dVar 3) (dP1 (dVar 12)) (dP0)))) (dNil))))))
  (dRet (dC (.bl false)))
  (dNext)))))))))
  (dRet (dCallS g_word ew (dCons (dOp fIx (dFz (dLst (dCons (dC .non) (dCons (dCall fTuple (dCons (dVar 3) (dNil))) (dCons (dC (.str ("records" : Str))) (dCons (dC .edict) (dCons (dC (.int 5)) (dNil)))))))) (dOp fMod (dCallS g_next ew (dCons (dVar 1) (dNil))) (dC (.int 5)))) (dNil))))))))))))))
end DL.K03
namespace DL.K03
open PySem PySem.Spec PyProof.Rows L2
theorem w_p_is_plain {P : Program} {wd : World} {K : PySem.W.Frag} {mg : Str → Option Value} {base : Heap} {c_BadRecord c_HouseError c_BadName c_BadLine c_BadLetter c_BadChange c_BadZone c_BadTurn c_BadRow k_KINDS : Addr} (T : Txt K mg c_BadRecord c_HouseError c_BadName c_BadLine c_BadLetter c_BadChange c_BadZone c_BadTurn c_BadRow k_KINDS)  
    {f : Addr} {cdv : Value} {A : Around} {outer : List Env} {s : Shared} {H : Hp} {E : XK} {B : Bs} {EP : Value → Sto → Prop} (hr : Room 0 (A.deeper (envOfC "is_plain" (defScope st_p_is_plain) s.heap.objs.size f cdv)))
    (dx : DX (cxOf (L2.CX P wd) P wd K mg base N_p_is_plain "is_plain" (defScope st_p_is_plain) f cdv A outer s H E) B (fun cls d _ H => E cls d H) (fun c _ S => EP c S)) :
    PSsD (cxOf (L2.CX P wd) P wd K mg base N_p_is_plain "is_plain" (defScope st_p_is_plain) f cdv A outer s H E) B (defBody st_p_is_plain) (t_p_is_plain K c_BadRecord c_HouseError c_BadName c_BadLine c_BadLetter c_BadChange c_BadZone c_BadTurn c_BadRow k_KINDS fun c _ S => EP c S) := by
  have hu : (cxOf (L2.CX P wd) P wd K mg base N_p_is_plain "is_plain" (defScope st_p_is_plain) f cdv A outer s H E).A.units + 100 < cLine := by
    have := hr.un
    show (A.deeper _).units + 100 < cLine
    omega
  have hu1 : (cxOf (L2.CX P wd) P wd K mg base N_p_is_plain "is_plain" (defScope st_p_is_plain) f cdv A outer s H E).A.units + 1 < cLine := by omega
  have nd := sc_p_is_plain.nd
  have hp : PassesOwn (model P wd) (cxOf (L2.CX P wd) P wd K mg base N_p_is_plain "is_plain" (defScope st_p_is_plain) f cdv A outer s H E).A (cxOf (L2.CX P wd) P wd K mg base N_p_is_plain "is_plain" (defScope st_p_is_plain) f cdv A outer s H E).env (cxOf (L2.CX P wd) P wd K mg base N_p_is_plain "is_plain" (defScope st_p_is_plain) f cdv A outer s H E).xe := passes_of rfl
  exact pss_dcons (ps_dif ((pw_dor (pt_dnot (pt_d (pd_callB o_isi (by rfl) T.m_isinstance bb_isinstance (pb_cons (pb_of (pd_var 0)) (pb_cons (pb_of (pd_ty (by rfl) T.m_str bb_str)) (pb_nil)))))) (pw_dor1 (pt_dnot (pt_dchain (o_leS) (o_leS) (pb_of (pd_int)) (pb_of (pd_callB o_len (by rfl) T.m_len bb_len (pb_cons (pb_of (pd_var 0)) (pb_nil)))) (pb_of (pd_gintE T.m_MOST_SIGNS)))))).pt)
      (pss_done (ps_dret (pd_bl)))
      (pss_dnil))
      (pss_done (ps_dret (pd_callB (o_all rfl) (by rfl) T.m_all bb_all (pb_cons (pb_of (pd_fz (pf_lc (own := [(("sign" : Str), 1)]) rfl nd (pi_dstr (pd_var 0)) (blkOk_by (N := N_p_is_plain) (sc := defScope st_p_is_plain) (by decide +kernel)) (fun _ _ _ _ _ => pg_name (i := 1) nd rfl (Or.inl rfl)) (gc_of (gc_name 1 (by decide))) (fun _ _ _ _ _ => pts_dnil) (fun _ _ _ _ _ => pd_cmp (o_in (by exact hu)) (pb_of (pd_var 1)) (pb_of (pd_gstrE T.m_SIGNS)))))) (pb_nil)))))
theorem w_p_is_label {P : Program} {wd : World} {K : PySem.W.Frag} {mg : Str → Option Value} {base : Heap} {c_BadRecord c_HouseError c_BadName c_BadLine c_BadLetter c_BadChange c_BadZone c_BadTurn c_BadRow k_KINDS : Addr} (T : Txt K mg c_BadRecord c_HouseError c_BadName c_BadLine c_BadLetter c_BadChange c_BadZone c_BadTurn c_BadRow k_KINDS)  (h_p_is_plain : Has P wd K mg base 1 "is_plain" ps_p_is_plain g_p_is_plain)
    {f : Addr} {cdv : Value} {A : Around} {outer : List Env} {s : Shared} {H : Hp} {E : XK} {B : Bs} {EP : Value → Sto → Prop} (hr : Room 1 (A.deeper (envOfC "is_label" (defScope st_p_is_label) s.heap.objs.size f cdv)))
    (dx : DX (cxOf (L2.CX P wd) P wd K mg base N_p_is_label "is_label" (defScope st_p_is_label) f cdv A outer s H E) B (fun cls d _ H => E cls d H) (fun c _ S => EP c S)) :
    PSsD (cxOf (L2.CX P wd) P wd K mg base N_p_is_label "is_label" (defScope st_p_is_label) f cdv A outer s H E) B (defBody st_p_is_label) (t_p_is_label K c_BadRecord c_HouseError c_BadName c_BadLine c_BadLetter c_BadChange c_BadZone c_BadTurn c_BadRow k_KINDS fun c _ S => EP c S) := by
  have hu : (cxOf (L2.CX P wd) P wd K mg base N_p_is_label "is_label" (defScope st_p_is_label) f cdv A outer s H E).A.units + 100 < cLine := by
    have := hr.un
    show (A.deeper _).units + 100 < cLine
    omega
  have hu1 : (cxOf (L2.CX P wd) P wd K mg base N_p_is_label "is_label" (defScope st_p_is_label) f cdv A outer s H E).A.units + 1 < cLine := by omega
  have nd := sc_p_is_label.nd
  have hp : PassesOwn (model P wd) (cxOf (L2.CX P wd) P wd K mg base N_p_is_label "is_label" (defScope st_p_is_label) f cdv A outer s H E).A (cxOf (L2.CX P wd) P wd K mg base N_p_is_label "is_label" (defScope st_p_is_label) f cdv A outer s H E).env (cxOf (L2.CX P wd) P wd K mg base N_p_is_label "is_label" (defScope st_p_is_label) f cdv A outer s H E).xe := passes_of rfl
  exact pss_done (ps_dret (pd_or (pd_fn dx h_p_is_plain (hr.mono (by decide)) (pa_dcons (pd_var 0) (pa_dnil))) (pd_one (pd_and (pd_callB o_isi (by rfl) T.m_isinstance bb_isinstance (pb_cons (pb_of (pd_var 0)) (pb_cons (pb_of (pd_ty (by rfl) T.m_str bb_str)) (pb_nil)))) (pd_one (pd_cmp (o_eq hu) (pb_of (pd_var 0)) (pb_of (pd_gstrE T.m_STAR))))))))
theorem w_p_is_name {P : Program} {wd : World} {K : PySem.W.Frag} {mg : Str → Option Value} {base : Heap} {c_BadRecord c_HouseError c_BadName c_BadLine c_BadLetter c_BadChange c_BadZone c_BadTurn c_BadRow k_KINDS : Addr} (T : Txt K mg c_BadRecord c_HouseError c_BadName c_BadLine c_BadLetter c_BadChange c_BadZone c_BadTurn c_BadRow k_KINDS)  (h_p_is_label : Has P wd K mg base 2 "is_label" ps_p_is_label g_p_is_label) (h_p_is_plain : Has P wd K mg base 1 "is_plain" ps_p_is_plain g_p_is_plain)
    {f : Addr} {cdv : Value} {A : Around} {outer : List Env} {s : Shared} {H : Hp} {E : XK} {B : Bs} {EP : Value → Sto → Prop} (hr : Room 2 (A.deeper (envOfC "is_name" (defScope st_p_is_name) s.heap.objs.size f cdv)))
    (dx : DX (cxOf (L2.CX P wd) P wd K mg base N_p_is_name "is_name" (defScope st_p_is_name) f cdv A outer s H E) B (fun cls d _ H => E cls d H) (fun c _ S => EP c S)) :
    PSsD (cxOf (L2.CX P wd) P wd K mg base N_p_is_name "is_name" (defScope st_p_is_name) f cdv A outer s H E) B (defBody st_p_is_name) (t_p_is_name K c_BadRecord c_HouseError c_BadName c_BadLine c_BadLetter c_BadChange c_BadZone c_BadTurn c_BadRow k_KINDS fun c _ S => EP c S) := by
  have hu : (cxOf (L2.CX P wd) P wd K mg base N_p_is_name "is_name" (defScope st_p_is_name) f cdv A outer s H E).A.units + 100 < cLine := by
    have := hr.un
    show (A.deeper _).units + 100 < cLine
    omega
  have hu1 : (cxOf (L2.CX P wd) P wd K mg base N_p_is_name "is_name" (defScope st_p_is_name) f cdv A outer s H E).A.units + 1 < cLine := by omega
  have nd := sc_p_is_name.nd
  have hp : PassesOwn (model P wd) (cxOf (L2.CX P wd) P wd K mg base N_p_is_name "is_name" (defScope st_p_is_name) f cdv A outer s H E).A (cxOf (L2.CX P wd) P wd K mg base N_p_is_name "is_name" (defScope st_p_is_name) f cdv A outer s H E).env (cxOf (L2.CX P wd) P wd K mg base N_p_is_name "is_name" (defScope st_p_is_name) f cdv A outer s H E).xe := passes_of rfl
  exact pss_dcons (ps_dif ((pw_dor (pt_dnot (pt_d (pd_callB o_isi (by rfl) T.m_isinstance bb_isinstance (pb_cons (pb_of (pd_var 0)) (pb_cons (pb_of (pd_ty (by rfl) T.m_tuple bb_tuple)) (pb_nil)))))) (pw_dor1 (pt_dcmp (o_gt) (pb_of (pd_callB o_len (by rfl) T.m_len bb_len (pb_cons (pb_of (pd_var 0)) (pb_nil)))) (pb_of (pd_gintE T.m_MOST_LABELS))))).pt)
      (pss_done (ps_dret (pd_bl)))
      (pss_dnil))
      (pss_done (ps_dret (pd_and (pd_callB (o_all rfl) (by rfl) T.m_all bb_all (pb_cons (pb_of (pd_fz (pf_lc (own := [(("label" : Str), 1)]) rfl nd (pi_dtup (pd_slice (pb_of (pd_var 0)) (pp_none) (pp_some (pd_int)))) (blkOk_by (N := N_p_is_name) (sc := defScope st_p_is_name) (by decide +kernel)) (fun _ _ _ _ _ => pg_name (i := 1) nd rfl (Or.inl rfl)) (gc_of (gc_name 1 (by decide))) (fun _ _ _ _ _ => pts_dnil) (fun _ _ _ _ _ => pd_fn dx0 h_p_is_label (hr.mono (by decide)) (pa_dcons (pd_var 1) (pa_dnil)))))) (pb_nil))) (pd_one (pd_callB (o_all rfl) (by rfl) T.m_all bb_all (pb_cons (pb_of (pd_fz (pf_lc (own := [(("label" : Str), 1)]) rfl nd (pi_dtup (pd_slice (pb_of (pd_var 0)) (pp_some (pd_int)) (pp_none))) (blkOk_by (N := N_p_is_name) (sc := defScope st_p_is_name) (by decide +kernel)) (fun _ _ _ _ _ => pg_name (i := 1) nd rfl (Or.inl rfl)) (gc_of (gc_name 1 (by decide))) (fun _ _ _ _ _ => pts_dnil) (fun _ _ _ _ _ => pd_fn dx0 h_p_is_plain (hr.mono (by decide)) (pa_dcons (pd_var 1) (pa_dnil)))))) (pb_nil)))))))
theorem w_p_is_starless {P : Program} {wd : World} {K : PySem.W.Frag} {mg : Str → Option Value} {base : Heap} {c_BadRecord c_HouseError c_BadName c_BadLine c_BadLetter c_BadChange c_BadZone c_BadTurn c_BadRow k_KINDS : Addr} (T : Txt K mg c_BadRecord c_HouseError c_BadName c_BadLine c_BadLetter c_BadChange c_BadZone c_BadTurn c_BadRow k_KINDS)  (h_p_is_name : Has P wd K mg base 3 "is_name" ps_p_is_name g_p_is_name)
    {f : Addr} {cdv : Value} {A : Around} {outer : List Env} {s : Shared} {H : Hp} {E : XK} {B : Bs} {EP : Value → Sto → Prop} (hr : Room 3 (A.deeper (envOfC "is_starless" (defScope st_p_is_starless) s.heap.objs.size f cdv)))
    (dx : DX (cxOf (L2.CX P wd) P wd K mg base N_p_is_starless "is_starless" (defScope st_p_is_starless) f cdv A outer s H E) B (fun cls d _ H => E cls d H) (fun c _ S => EP c S)) :
    PSsD (cxOf (L2.CX P wd) P wd K mg base N_p_is_starless "is_starless" (defScope st_p_is_starless) f cdv A outer s H E) B (defBody st_p_is_starless) (t_p_is_starless K c_BadRecord c_HouseError c_BadName c_BadLine c_BadLetter c_BadChange c_BadZone c_BadTurn c_BadRow k_KINDS fun c _ S => EP c S) := by
  have hu : (cxOf (L2.CX P wd) P wd K mg base N_p_is_starless "is_starless" (defScope st_p_is_starless) f cdv A outer s H E).A.units + 100 < cLine := by
    have := hr.un
    show (A.deeper _).units + 100 < cLine
    omega
  have hu1 : (cxOf (L2.CX P wd) P wd K mg base N_p_is_starless "is_starless" (defScope st_p_is_starless) f cdv A outer s H E).A.units + 1 < cLine := by omega
  have nd := sc_p_is_starless.nd
  have hp : PassesOwn (model P wd) (cxOf (L2.CX P wd) P wd K mg base N_p_is_starless "is_starless" (defScope st_p_is_starless) f cdv A outer s H E).A (cxOf (L2.CX P wd) P wd K mg base N_p_is_starless "is_starless" (defScope st_p_is_starless) f cdv A outer s H E).env (cxOf (L2.CX P wd) P wd K mg base N_p_is_starless "is_starless" (defScope st_p_is_starless) f cdv A outer s H E).xe := passes_of rfl
  exact pss_done (ps_dret (pd_and (pd_fn dx h_p_is_name (hr.mono (by decide)) (pa_dcons (pd_var 0) (pa_dnil))) (pd_one (pd_cmp (o_ne hu) (pb_of (pd_slice (pb_of (pd_var 0)) (pp_none) (pp_some (pd_int)))) (pb_of (pd_tup (pa_dcons (pd_gstrE T.m_STAR) (pa_dnil))))))))
theorem w_p_name_rank {P : Program} {wd : World} {K : PySem.W.Frag} {mg : Str → Option Value} {base : Heap} {c_BadRecord c_HouseError c_BadName c_BadLine c_BadLetter c_BadChange c_BadZone c_BadTurn c_BadRow k_KINDS : Addr} (T : Txt K mg c_BadRecord c_HouseError c_BadName c_BadLine c_BadLetter c_BadChange c_BadZone c_BadTurn c_BadRow k_KINDS)  
    {f : Addr} {cdv : Value} {A : Around} {outer : List Env} {s : Shared} {H : Hp} {E : XK} {B : Bs} {EP : Value → Sto → Prop} (hr : Room 0 (A.deeper (envOfC "name_rank" (defScope st_p_name_rank) s.heap.objs.size f cdv)))
    (dx : DX (cxOf (L2.CX P wd) P wd K mg base N_p_name_rank "name_rank" (defScope st_p_name_rank) f cdv A outer s H E) B (fun cls d _ H => E cls d H) (fun c _ S => EP c S)) :
    PSsD (cxOf (L2.CX P wd) P wd K mg base N_p_name_rank "name_rank" (defScope st_p_name_rank) f cdv A outer s H E) B (defBody st_p_name_rank) (t_p_name_rank K c_BadRecord c_HouseError c_BadName c_BadLine c_BadLetter c_BadChange c_BadZone c_BadTurn c_BadRow k_KINDS fun c _ S => EP c S) := by
  have hu : (cxOf (L2.CX P wd) P wd K mg base N_p_name_rank "name_rank" (defScope st_p_name_rank) f cdv A outer s H E).A.units + 100 < cLine := by
    have := hr.un
    show (A.deeper _).units + 100 < cLine
    omega
  have hu1 : (cxOf (L2.CX P wd) P wd K mg base N_p_name_rank "name_rank" (defScope st_p_name_rank) f cdv A outer s H E).A.units + 1 < cLine := by omega
  have nd := sc_p_name_rank.nd
  have hp : PassesOwn (model P wd) (cxOf (L2.CX P wd) P wd K mg base N_p_name_rank "name_rank" (defScope st_p_name_rank) f cdv A outer s H E).A (cxOf (L2.CX P wd) P wd K mg base N_p_name_rank "name_rank" (defScope st_p_name_rank) f cdv A outer s H E).env (cxOf (L2.CX P wd) P wd K mg base N_p_name_rank "name_rank" (defScope st_p_name_rank) f cdv A outer s H E).xe := passes_of rfl
  exact pss_done (ps_dret (pd_revT rfl (by rfl) T.m_tuple (by rfl) T.m_reversed (pd_var 0)))
theorem w_p_is_among {P : Program} {wd : World} {K : PySem.W.Frag} {mg : Str → Option Value} {base : Heap} {c_BadRecord c_HouseError c_BadName c_BadLine c_BadLetter c_BadChange c_BadZone c_BadTurn c_BadRow k_KINDS : Addr} (T : Txt K mg c_BadRecord c_HouseError c_BadName c_BadLine c_BadLetter c_BadChange c_BadZone c_BadTurn c_BadRow k_KINDS)  
    {f : Addr} {cdv : Value} {A : Around} {outer : List Env} {s : Shared} {H : Hp} {E : XK} {B : Bs} {EP : Value → Sto → Prop} (hr : Room 0 (A.deeper (envOfC "is_among" (defScope st_p_is_among) s.heap.objs.size f cdv)))
    (dx : DX (cxOf (L2.CX P wd) P wd K mg base N_p_is_among "is_among" (defScope st_p_is_among) f cdv A outer s H E) B (fun cls d _ H => E cls d H) (fun c _ S => EP c S)) :
    PSsD (cxOf (L2.CX P wd) P wd K mg base N_p_is_among "is_among" (defScope st_p_is_among) f cdv A outer s H E) B (defBody st_p_is_among) (t_p_is_among K c_BadRecord c_HouseError c_BadName c_BadLine c_BadLetter c_BadChange c_BadZone c_BadTurn c_BadRow k_KINDS fun c _ S => EP c S) := by
  have hu : (cxOf (L2.CX P wd) P wd K mg base N_p_is_among "is_among" (defScope st_p_is_among) f cdv A outer s H E).A.units + 100 < cLine := by
    have := hr.un
    show (A.deeper _).units + 100 < cLine
    omega
  have hu1 : (cxOf (L2.CX P wd) P wd K mg base N_p_is_among "is_among" (defScope st_p_is_among) f cdv A outer s H E).A.units + 1 < cLine := by omega
  have nd := sc_p_is_among.nd
  have hp : PassesOwn (model P wd) (cxOf (L2.CX P wd) P wd K mg base N_p_is_among "is_among" (defScope st_p_is_among) f cdv A outer s H E).A (cxOf (L2.CX P wd) P wd K mg base N_p_is_among "is_among" (defScope st_p_is_among) f cdv A outer s H E).env (cxOf (L2.CX P wd) P wd K mg base N_p_is_among "is_among" (defScope st_p_is_among) f cdv A outer s H E).xe := passes_of rfl
  exact pss_done (ps_dret (pd_and (pd_callB o_isi (by rfl) T.m_isinstance bb_isinstance (pb_cons (pb_of (pd_var 0)) (pb_cons (pb_of (pd_ty (by rfl) T.m_int bb_int)) (pb_nil)))) (pd_and (pd_not (pd_callB o_isi (by rfl) T.m_isinstance bb_isinstance (pb_cons (pb_of (pd_var 0)) (pb_cons (pb_of (pd_ty (by rfl) T.m_bool bb_bool)) (pb_nil))))) (pd_one (pd_chain (o_leS) (o_leS) (pb_of (pd_var 1)) (pb_of (pd_var 0)) (pb_of (pd_var 2)))))))
theorem w_p_is_kind {P : Program} {wd : World} {K : PySem.W.Frag} {mg : Str → Option Value} {base : Heap} {c_BadRecord c_HouseError c_BadName c_BadLine c_BadLetter c_BadChange c_BadZone c_BadTurn c_BadRow k_KINDS : Addr} (T : Txt K mg c_BadRecord c_HouseError c_BadName c_BadLine c_BadLetter c_BadChange c_BadZone c_BadTurn c_BadRow k_KINDS)  
    {f : Addr} {cdv : Value} {A : Around} {outer : List Env} {s : Shared} {H : Hp} {E : XK} {B : Bs} {EP : Value → Sto → Prop} (hr : Room 0 (A.deeper (envOfC "is_kind" (defScope st_p_is_kind) s.heap.objs.size f cdv)))
    (dx : DX (cxOf (L2.CX P wd) P wd K mg base N_p_is_kind "is_kind" (defScope st_p_is_kind) f cdv A outer s H E) B (fun cls d _ H => E cls d H) (fun c _ S => EP c S)) :
    PSsD (cxOf (L2.CX P wd) P wd K mg base N_p_is_kind "is_kind" (defScope st_p_is_kind) f cdv A outer s H E) B (defBody st_p_is_kind) (t_p_is_kind K c_BadRecord c_HouseError c_BadName c_BadLine c_BadLetter c_BadChange c_BadZone c_BadTurn c_BadRow k_KINDS fun c _ S => EP c S) := by
  have hu : (cxOf (L2.CX P wd) P wd K mg base N_p_is_kind "is_kind" (defScope st_p_is_kind) f cdv A outer s H E).A.units + 100 < cLine := by
    have := hr.un
    show (A.deeper _).units + 100 < cLine
    omega
  have hu1 : (cxOf (L2.CX P wd) P wd K mg base N_p_is_kind "is_kind" (defScope st_p_is_kind) f cdv A outer s H E).A.units + 1 < cLine := by omega
  have nd := sc_p_is_kind.nd
  have hp : PassesOwn (model P wd) (cxOf (L2.CX P wd) P wd K mg base N_p_is_kind "is_kind" (defScope st_p_is_kind) f cdv A outer s H E).A (cxOf (L2.CX P wd) P wd K mg base N_p_is_kind "is_kind" (defScope st_p_is_kind) f cdv A outer s H E).env (cxOf (L2.CX P wd) P wd K mg base N_p_is_kind "is_kind" (defScope st_p_is_kind) f cdv A outer s H E).xe := passes_of rfl
  exact pss_done (ps_dret (pd_and (pd_callB o_isi (by rfl) T.m_isinstance bb_isinstance (pb_cons (pb_of (pd_var 0)) (pb_cons (pb_of (pd_ty (by rfl) T.m_str bb_str)) (pb_nil)))) (pd_one (pd_cmp (o_in hu) (pb_of (pd_var 0)) (pb_of (pd_gtup (by rfl) T.m_KINDS T.t_KINDS))))))
theorem w_p_is_live {P : Program} {wd : World} {K : PySem.W.Frag} {mg : Str → Option Value} {base : Heap} {c_BadRecord c_HouseError c_BadName c_BadLine c_BadLetter c_BadChange c_BadZone c_BadTurn c_BadRow k_KINDS : Addr} (T : Txt K mg c_BadRecord c_HouseError c_BadName c_BadLine c_BadLetter c_BadChange c_BadZone c_BadTurn c_BadRow k_KINDS)  (h_p_is_among : Has P wd K mg base 1 "is_among" ps_p_is_among g_p_is_among)
    {f : Addr} {cdv : Value} {A : Around} {outer : List Env} {s : Shared} {H : Hp} {E : XK} {B : Bs} {EP : Value → Sto → Prop} (hr : Room 1 (A.deeper (envOfC "is_live" (defScope st_p_is_live) s.heap.objs.size f cdv)))
    (dx : DX (cxOf (L2.CX P wd) P wd K mg base N_p_is_live "is_live" (defScope st_p_is_live) f cdv A outer s H E) B (fun cls d _ H => E cls d H) (fun c _ S => EP c S)) :
    PSsD (cxOf (L2.CX P wd) P wd K mg base N_p_is_live "is_live" (defScope st_p_is_live) f cdv A outer s H E) B (defBody st_p_is_live) (t_p_is_live K c_BadRecord c_HouseError c_BadName c_BadLine c_BadLetter c_BadChange c_BadZone c_BadTurn c_BadRow k_KINDS fun c _ S => EP c S) := by
  have hu : (cxOf (L2.CX P wd) P wd K mg base N_p_is_live "is_live" (defScope st_p_is_live) f cdv A outer s H E).A.units + 100 < cLine := by
    have := hr.un
    show (A.deeper _).units + 100 < cLine
    omega
  have hu1 : (cxOf (L2.CX P wd) P wd K mg base N_p_is_live "is_live" (defScope st_p_is_live) f cdv A outer s H E).A.units + 1 < cLine := by omega
  have nd := sc_p_is_live.nd
  have hp : PassesOwn (model P wd) (cxOf (L2.CX P wd) P wd K mg base N_p_is_live "is_live" (defScope st_p_is_live) f cdv A outer s H E).A (cxOf (L2.CX P wd) P wd K mg base N_p_is_live "is_live" (defScope st_p_is_live) f cdv A outer s H E).env (cxOf (L2.CX P wd) P wd K mg base N_p_is_live "is_live" (defScope st_p_is_live) f cdv A outer s H E).xe := passes_of rfl
  exact pss_done (ps_dret (pd_fn dx h_p_is_among (hr.mono (by decide)) (pa_dcons (pd_var 0) (pa_dcons (pd_int) (pa_dcons (pd_gintE T.m_MOST_LIVE) (pa_dnil))))))
theorem w_p_is_words {P : Program} {wd : World} {K : PySem.W.Frag} {mg : Str → Option Value} {base : Heap} {c_BadRecord c_HouseError c_BadName c_BadLine c_BadLetter c_BadChange c_BadZone c_BadTurn c_BadRow k_KINDS : Addr} (T : Txt K mg c_BadRecord c_HouseError c_BadName c_BadLine c_BadLetter c_BadChange c_BadZone c_BadTurn c_BadRow k_KINDS)  
    {f : Addr} {cdv : Value} {A : Around} {outer : List Env} {s : Shared} {H : Hp} {E : XK} {B : Bs} {EP : Value → Sto → Prop} (hr : Room 0 (A.deeper (envOfC "is_words" (defScope st_p_is_words) s.heap.objs.size f cdv)))
    (dx : DX (cxOf (L2.CX P wd) P wd K mg base N_p_is_words "is_words" (defScope st_p_is_words) f cdv A outer s H E) B (fun cls d _ H => E cls d H) (fun c _ S => EP c S)) :
    PSsD (cxOf (L2.CX P wd) P wd K mg base N_p_is_words "is_words" (defScope st_p_is_words) f cdv A outer s H E) B (defBody st_p_is_words) (t_p_is_words K c_BadRecord c_HouseError c_BadName c_BadLine c_BadLetter c_BadChange c_BadZone c_BadTurn c_BadRow k_KINDS fun c _ S => EP c S) := by
  have hu : (cxOf (L2.CX P wd) P wd K mg base N_p_is_words "is_words" (defScope st_p_is_words) f cdv A outer s H E).A.units + 100 < cLine := by
    have := hr.un
    show (A.deeper _).units + 100 < cLine
    omega
  have hu1 : (cxOf (L2.CX P wd) P wd K mg base N_p_is_words "is_words" (defScope st_p_is_words) f cdv A outer s H E).A.units + 1 < cLine := by omega
  have nd := sc_p_is_words.nd
  have hp : PassesOwn (model P wd) (cxOf (L2.CX P wd) P wd K mg base N_p_is_words "is_words" (defScope st_p_is_words) f cdv A outer s H E).A (cxOf (L2.CX P wd) P wd K mg base N_p_is_words "is_words" (defScope st_p_is_words) f cdv A outer s H E).env (cxOf (L2.CX P wd) P wd K mg base N_p_is_words "is_words" (defScope st_p_is_words) f cdv A outer s H E).xe := passes_of rfl
  exact pss_dcons (ps_dif ((pw_dor (pt_dnot (pt_d (pd_callB o_isi (by rfl) T.m_isinstance bb_isinstance (pb_cons (pb_of (pd_var 0)) (pb_cons (pb_of (pd_ty (by rfl) T.m_str bb_str)) (pb_nil)))))) (pw_dor1 (pt_dcmp (o_gt) (pb_of (pd_callB o_len (by rfl) T.m_len bb_len (pb_cons (pb_of (pd_var 0)) (pb_nil)))) (pb_of (pd_gintE T.m_MOST_TEXT))))).pt)
      (pss_done (ps_dret (pd_bl)))
      (pss_dnil))
      (pss_done (ps_dret (pd_callB (o_all rfl) (by rfl) T.m_all bb_all (pb_cons (pb_of (pd_fz (pf_lc (own := [(("sign" : Str), 1)]) rfl nd (pi_dstr (pd_var 0)) (blkOk_by (N := N_p_is_words) (sc := defScope st_p_is_words) (by decide +kernel)) (fun _ _ _ _ _ => pg_name (i := 1) nd rfl (Or.inl rfl)) (gc_of (gc_name 1 (by decide))) (fun _ _ _ _ _ => pts_dnil) (fun _ _ _ _ _ => pd_and (pd_chain (o_leS) (o_leS) (pb_of (pd_str)) (pb_of (pd_var 1)) (pb_of (pd_str))) (pd_one (pd_cmp (o_ne (by exact hu)) (pb_of (pd_callB o_ord (by rfl) T.m_ord bb_ord (pb_cons (pb_of (pd_var 1)) (pb_nil)))) (pb_of (pd_gintE T.m_PERCENT)))))))) (pb_nil)))))
theorem w_p_is_top {P : Program} {wd : World} {K : PySem.W.Frag} {mg : Str → Option Value} {base : Heap} {c_BadRecord c_HouseError c_BadName c_BadLine c_BadLetter c_BadChange c_BadZone c_BadTurn c_BadRow k_KINDS : Addr} (T : Txt K mg c_BadRecord c_HouseError c_BadName c_BadLine c_BadLetter c_BadChange c_BadZone c_BadTurn c_BadRow k_KINDS)  (h_p_is_among : Has P wd K mg base 1 "is_among" ps_p_is_among g_p_is_among) (h_p_is_live : Has P wd K mg base 2 "is_live" ps_p_is_live g_p_is_live)
    {f : Addr} {cdv : Value} {A : Around} {outer : List Env} {s : Shared} {H : Hp} {E : XK} {B : Bs} {EP : Value → Sto → Prop} (hr : Room 2 (A.deeper (envOfC "is_top" (defScope st_p_is_top) s.heap.objs.size f cdv)))
    (dx : DX (cxOf (L2.CX P wd) P wd K mg base N_p_is_top "is_top" (defScope st_p_is_top) f cdv A outer s H E) B (fun cls d _ H => E cls d H) (fun c _ S => EP c S)) :
    PSsD (cxOf (L2.CX P wd) P wd K mg base N_p_is_top "is_top" (defScope st_p_is_top) f cdv A outer s H E) B (defBody st_p_is_top) (t_p_is_top K c_BadRecord c_HouseError c_BadName c_BadLine c_BadLetter c_BadChange c_BadZone c_BadTurn c_BadRow k_KINDS fun c _ S => EP c S) := by
  have hu : (cxOf (L2.CX P wd) P wd K mg base N_p_is_top "is_top" (defScope st_p_is_top) f cdv A outer s H E).A.units + 100 < cLine := by
    have := hr.un
    show (A.deeper _).units + 100 < cLine
    omega
  have hu1 : (cxOf (L2.CX P wd) P wd K mg base N_p_is_top "is_top" (defScope st_p_is_top) f cdv A outer s H E).A.units + 1 < cLine := by omega
  have nd := sc_p_is_top.nd
  have hp : PassesOwn (model P wd) (cxOf (L2.CX P wd) P wd K mg base N_p_is_top "is_top" (defScope st_p_is_top) f cdv A outer s H E).A (cxOf (L2.CX P wd) P wd K mg base N_p_is_top "is_top" (defScope st_p_is_top) f cdv A outer s H E).env (cxOf (L2.CX P wd) P wd K mg base N_p_is_top "is_top" (defScope st_p_is_top) f cdv A outer s H E).xe := passes_of rfl
  exact pss_done (ps_dret (pd_and (pd_callB o_isi (by rfl) T.m_isinstance bb_isinstance (pb_cons (pb_of (pd_var 0)) (pb_cons (pb_of (pd_ty (by rfl) T.m_tuple bb_tuple)) (pb_nil)))) (pd_and (pd_cmp (o_eq hu) (pb_of (pd_callB o_len (by rfl) T.m_len bb_len (pb_cons (pb_of (pd_var 0)) (pb_nil)))) (pb_of (pd_int))) (pd_and (pd_fn dx h_p_is_among (hr.mono (by decide)) (pa_dcons (pd_ix (pb_of (pd_var 0)) (pb_of (pd_int))) (pa_dcons (pd_int) (pa_dcons (pd_gintE T.m_MOST_VERSION) (pa_dnil))))) (pd_one (pd_fn dx h_p_is_live (hr.mono (by decide)) (pa_dcons (pd_ix (pb_of (pd_var 0)) (pb_of (pd_int))) (pa_dnil))))))))
theorem w_p_is_seal {P : Program} {wd : World} {K : PySem.W.Frag} {mg : Str → Option Value} {base : Heap} {c_BadRecord c_HouseError c_BadName c_BadLine c_BadLetter c_BadChange c_BadZone c_BadTurn c_BadRow k_KINDS : Addr} (T : Txt K mg c_BadRecord c_HouseError c_BadName c_BadLine c_BadLetter c_BadChange c_BadZone c_BadTurn c_BadRow k_KINDS)  (h_p_is_kind : Has P wd K mg base 1 "is_kind" ps_p_is_kind g_p_is_kind) (h_p_is_among : Has P wd K mg base 1 "is_among" ps_p_is_among g_p_is_among)
    {f : Addr} {cdv : Value} {A : Around} {outer : List Env} {s : Shared} {H : Hp} {E : XK} {B : Bs} {EP : Value → Sto → Prop} (hr : Room 1 (A.deeper (envOfC "is_seal" (defScope st_p_is_seal) s.heap.objs.size f cdv)))
    (dx : DX (cxOf (L2.CX P wd) P wd K mg base N_p_is_seal "is_seal" (defScope st_p_is_seal) f cdv A outer s H E) B (fun cls d _ H => E cls d H) (fun c _ S => EP c S)) :
    PSsD (cxOf (L2.CX P wd) P wd K mg base N_p_is_seal "is_seal" (defScope st_p_is_seal) f cdv A outer s H E) B (defBody st_p_is_seal) (t_p_is_seal K c_BadRecord c_HouseError c_BadName c_BadLine c_BadLetter c_BadChange c_BadZone c_BadTurn c_BadRow k_KINDS fun c _ S => EP c S) := by
  have hu : (cxOf (L2.CX P wd) P wd K mg base N_p_is_seal "is_seal" (defScope st_p_is_seal) f cdv A outer s H E).A.units + 100 < cLine := by
    have := hr.un
    show (A.deeper _).units + 100 < cLine
    omega
  have hu1 : (cxOf (L2.CX P wd) P wd K mg base N_p_is_seal "is_seal" (defScope st_p_is_seal) f cdv A outer s H E).A.units + 1 < cLine := by omega
  have nd := sc_p_is_seal.nd
  have hp : PassesOwn (model P wd) (cxOf (L2.CX P wd) P wd K mg base N_p_is_seal "is_seal" (defScope st_p_is_seal) f cdv A outer s H E).A (cxOf (L2.CX P wd) P wd K mg base N_p_is_seal "is_seal" (defScope st_p_is_seal) f cdv A outer s H E).env (cxOf (L2.CX P wd) P wd K mg base N_p_is_seal "is_seal" (defScope st_p_is_seal) f cdv A outer s H E).xe := passes_of rfl
  exact pss_dcons (ps_dif ((pw_dor (pt_dnot (pt_d (pd_callB o_isi (by rfl) T.m_isinstance bb_isinstance (pb_cons (pb_of (pd_var 0)) (pb_cons (pb_of (pd_ty (by rfl) T.m_tuple bb_tuple)) (pb_nil)))))) (pw_dor (pt_dcmp (o_ne hu) (pb_of (pd_callB o_len (by rfl) T.m_len bb_len (pb_cons (pb_of (pd_var 0)) (pb_nil)))) (pb_of (pd_int))) (pw_dor (pt_dnot (pt_d (pd_fn dx h_p_is_kind (hr.mono (by decide)) (pa_dcons (pd_ix (pb_of (pd_var 0)) (pb_of (pd_int))) (pa_dnil))))) (pw_dor1 (pt_dcmp (o_eq hu) (pb_of (pd_ix (pb_of (pd_var 0)) (pb_of (pd_int)))) (pb_of (pd_str))))))).pt)
      (pss_done (ps_dret (pd_bl)))
      (pss_dnil))
      (pss_done (ps_dret (pd_and (pd_fn dx h_p_is_among (hr.mono (by decide)) (pa_dcons (pd_ix (pb_of (pd_var 0)) (pb_of (pd_int))) (pa_dcons (pd_int) (pa_dcons (pd_gintE T.m_MOST_KEY) (pa_dnil))))) (pd_one (pd_fn dx h_p_is_among (hr.mono (by decide)) (pa_dcons (pd_ix (pb_of (pd_var 0)) (pb_of (pd_int))) (pa_dcons (pd_int) (pa_dcons (pd_gintE T.m_MOST_SUM) (pa_dnil)))))))))
theorem w_p_is_gap {P : Program} {wd : World} {K : PySem.W.Frag} {mg : Str → Option Value} {base : Heap} {c_BadRecord c_HouseError c_BadName c_BadLine c_BadLetter c_BadChange c_BadZone c_BadTurn c_BadRow k_KINDS : Addr} (T : Txt K mg c_BadRecord c_HouseError c_BadName c_BadLine c_BadLetter c_BadChange c_BadZone c_BadTurn c_BadRow k_KINDS)  (h_p_is_name : Has P wd K mg base 3 "is_name" ps_p_is_name g_p_is_name) (h_p_is_kind : Has P wd K mg base 1 "is_kind" ps_p_is_kind g_p_is_kind)
    {f : Addr} {cdv : Value} {A : Around} {outer : List Env} {s : Shared} {H : Hp} {E : XK} {B : Bs} {EP : Value → Sto → Prop} (hr : Room 3 (A.deeper (envOfC "is_gap" (defScope st_p_is_gap) s.heap.objs.size f cdv)))
    (dx : DX (cxOf (L2.CX P wd) P wd K mg base N_p_is_gap "is_gap" (defScope st_p_is_gap) f cdv A outer s H E) B (fun cls d _ H => E cls d H) (fun c _ S => EP c S)) :
    PSsD (cxOf (L2.CX P wd) P wd K mg base N_p_is_gap "is_gap" (defScope st_p_is_gap) f cdv A outer s H E) B (defBody st_p_is_gap) (t_p_is_gap K c_BadRecord c_HouseError c_BadName c_BadLine c_BadLetter c_BadChange c_BadZone c_BadTurn c_BadRow k_KINDS fun c _ S => EP c S) := by
  have hu : (cxOf (L2.CX P wd) P wd K mg base N_p_is_gap "is_gap" (defScope st_p_is_gap) f cdv A outer s H E).A.units + 100 < cLine := by
    have := hr.un
    show (A.deeper _).units + 100 < cLine
    omega
  have hu1 : (cxOf (L2.CX P wd) P wd K mg base N_p_is_gap "is_gap" (defScope st_p_is_gap) f cdv A outer s H E).A.units + 1 < cLine := by omega
  have nd := sc_p_is_gap.nd
  have hp : PassesOwn (model P wd) (cxOf (L2.CX P wd) P wd K mg base N_p_is_gap "is_gap" (defScope st_p_is_gap) f cdv A outer s H E).A (cxOf (L2.CX P wd) P wd K mg base N_p_is_gap "is_gap" (defScope st_p_is_gap) f cdv A outer s H E).env (cxOf (L2.CX P wd) P wd K mg base N_p_is_gap "is_gap" (defScope st_p_is_gap) f cdv A outer s H E).xe := passes_of rfl
  exact pss_dcons (ps_dif ((pw_dor (pt_dnot (pt_d (pd_callB o_isi (by rfl) T.m_isinstance bb_isinstance (pb_cons (pb_of (pd_var 0)) (pb_cons (pb_of (pd_ty (by rfl) T.m_tuple bb_tuple)) (pb_nil)))))) (pw_dor (pt_dcmp (o_ne hu) (pb_of (pd_callB o_len (by rfl) T.m_len bb_len (pb_cons (pb_of (pd_var 0)) (pb_nil)))) (pb_of (pd_int))) (pw_dor (pt_dnot (pt_d (pd_fn dx h_p_is_name (hr.mono (by decide)) (pa_dcons (pd_ix (pb_of (pd_var 0)) (pb_of (pd_int))) (pa_dnil))))) (pw_dor1 (pt_dnot (pt_d (pd_callB o_isi (by rfl) T.m_isinstance bb_isinstance (pb_cons (pb_of (pd_ix (pb_of (pd_var 0)) (pb_of (pd_int)))) (pb_cons (pb_of (pd_ty (by rfl) T.m_tuple bb_tuple)) (pb_nil)))))))))).pt)
      (pss_done (ps_dret (pd_bl)))
      (pss_dnil))
      (pss_dcons (ps_dif (pt_dnot (pt_d (pd_callB (o_all rfl) (by rfl) T.m_all bb_all (pb_cons (pb_of (pd_fz (pf_lc (own := [(("kind" : Str), 2)]) rfl nd (pi_dtup (pd_ix (pb_of (pd_var 0)) (pb_of (pd_int)))) (blkOk_by (N := N_p_is_gap) (sc := defScope st_p_is_gap) (by decide +kernel)) (fun _ _ _ _ _ => pg_name (i := 2) nd rfl (Or.inl rfl)) (gc_of (gc_name 2 (by decide))) (fun _ _ _ _ _ => pts_dnil) (fun _ _ _ _ _ => pd_fn dx0 h_p_is_kind (hr.mono (by decide)) (pa_dcons (pd_var 2) (pa_dnil)))))) (pb_nil)))))
      (pss_done (ps_dret (pd_bl)))
      (pss_dnil))
      (pss_done (ps_dret (pd_callB (o_all rfl) (by rfl) T.m_all bb_all (pb_cons (pb_of (pd_fz (pf_lc (own := [(("at" : Str), 1)]) rfl nd (pi_drange1 (by rfl) T.m_range (pa_dcons (pd_op o_sub (pb_of (pd_callB o_len (by rfl) T.m_len bb_len (pb_cons (pb_of (pd_ix (pb_of (pd_var 0)) (pb_of (pd_int)))) (pb_nil)))) (pb_of (pd_int))) (pa_dnil))) (blkOk_by (N := N_p_is_gap) (sc := defScope st_p_is_gap) (by decide +kernel)) (fun _ _ _ _ _ => pg_name (i := 1) nd rfl (Or.inl rfl)) (gc_of (gc_name 1 (by decide))) (fun _ _ _ _ _ => pts_dnil) (fun _ _ _ _ _ => pd_cmp (o_ltS) (pb_of (pd_ix (pb_of (pd_ix (pb_of (pd_var 0)) (pb_of (pd_int)))) (pb_of (pd_var 1)))) (pb_of (pd_ix (pb_of (pd_ix (pb_of (pd_var 0)) (pb_of (pd_int)))) (pb_of (pd_op o_add (pb_of (pd_var 1)) (pb_of (pd_int)))))))))) (pb_nil))))))
theorem w_p_is_data {P : Program} {wd : World} {K : PySem.W.Frag} {mg : Str → Option Value} {base : Heap} {c_BadRecord c_HouseError c_BadName c_BadLine c_BadLetter c_BadChange c_BadZone c_BadTurn c_BadRow k_KINDS : Addr} (T : Txt K mg c_BadRecord c_HouseError c_BadName c_BadLine c_BadLetter c_BadChange c_BadZone c_BadTurn c_BadRow k_KINDS)  (h_p_is_among : Has P wd K mg base 1 "is_among" ps_p_is_among g_p_is_among) (h_p_is_words : Has P wd K mg base 1 "is_words" ps_p_is_words g_p_is_words) (h_p_is_starless : Has P wd K mg base 4 "is_starless" ps_p_is_starless g_p_is_starless) (h_p_is_top : Has P wd K mg base 3 "is_top" ps_p_is_top g_p_is_top) (h_p_is_seal : Has P wd K mg base 2 "is_seal" ps_p_is_seal g_p_is_seal) (h_p_is_gap : Has P wd K mg base 4 "is_gap" ps_p_is_gap g_p_is_gap)
    {f : Addr} {cdv : Value} {A : Around} {outer : List Env} {s : Shared} {H : Hp} {E : XK} {B : Bs} {EP : Value → Sto → Prop} (hr : Room 4 (A.deeper (envOfC "is_data" (defScope st_p_is_data) s.heap.objs.size f cdv)))
    (dx : DX (cxOf (L2.CX P wd) P wd K mg base N_p_is_data "is_data" (defScope st_p_is_data) f cdv A outer s H E) B (fun cls d _ H => E cls d H) (fun c _ S => EP c S)) :
    PSsD (cxOf (L2.CX P wd) P wd K mg base N_p_is_data "is_data" (defScope st_p_is_data) f cdv A outer s H E) B (defBody st_p_is_data) (t_p_is_data K c_BadRecord c_HouseError c_BadName c_BadLine c_BadLetter c_BadChange c_BadZone c_BadTurn c_BadRow k_KINDS fun c _ S => EP c S) := by
  have hu : (cxOf (L2.CX P wd) P wd K mg base N_p_is_data "is_data" (defScope st_p_is_data) f cdv A outer s H E).A.units + 100 < cLine := by
    have := hr.un
    show (A.deeper _).units + 100 < cLine
    omega
  have hu1 : (cxOf (L2.CX P wd) P wd K mg base N_p_is_data "is_data" (defScope st_p_is_data) f cdv A outer s H E).A.units + 1 < cLine := by omega
  have nd := sc_p_is_data.nd
  have hp : PassesOwn (model P wd) (cxOf (L2.CX P wd) P wd K mg base N_p_is_data "is_data" (defScope st_p_is_data) f cdv A outer s H E).A (cxOf (L2.CX P wd) P wd K mg base N_p_is_data "is_data" (defScope st_p_is_data) f cdv A outer s H E).env (cxOf (L2.CX P wd) P wd K mg base N_p_is_data "is_data" (defScope st_p_is_data) f cdv A outer s H E).xe := passes_of rfl
  exact pss_dcons (ps_dif (pt_dcmp (o_eq hu) (pb_of (pd_var 0)) (pb_of (pd_str)))
      (pss_done (ps_dret (pd_fn dx h_p_is_among (hr.mono (by decide)) (pa_dcons (pd_var 1) (pa_dcons (pd_int) (pa_dcons (pd_gintE T.m_MOST_ADDR) (pa_dnil)))))))
      (pss_dnil))
      (pss_dcons (ps_dif (pt_dcmp (o_eq hu) (pb_of (pd_var 0)) (pb_of (pd_str)))
      (pss_done (ps_dret (pd_fn dx h_p_is_words (hr.mono (by decide)) (pa_dcons (pd_var 1) (pa_dnil)))))
      (pss_dnil))
      (pss_dcons (ps_dif ((pw_dor (pt_dcmp (o_eq hu) (pb_of (pd_var 0)) (pb_of (pd_str))) (pw_dor1 (pt_dcmp (o_eq hu) (pb_of (pd_var 0)) (pb_of (pd_str))))).pt)
      (pss_done (ps_dret (pd_fn dx h_p_is_starless (hr.mono (by decide)) (pa_dcons (pd_var 1) (pa_dnil)))))
      (pss_dnil))
      (pss_dcons (ps_dif (pt_dcmp (o_eq hu) (pb_of (pd_var 0)) (pb_of (pd_str)))
      (pss_done (ps_dret (pd_fn dx h_p_is_top (hr.mono (by decide)) (pa_dcons (pd_var 1) (pa_dnil)))))
      (pss_dnil))
      (pss_dcons (ps_dif (pt_dcmp (o_eq hu) (pb_of (pd_var 0)) (pb_of (pd_str)))
      (pss_done (ps_dret (pd_fn dx h_p_is_seal (hr.mono (by decide)) (pa_dcons (pd_var 1) (pa_dnil)))))
      (pss_dnil))
      (pss_dcons (ps_dif (pt_dcmp (o_eq hu) (pb_of (pd_var 0)) (pb_of (pd_str)))
      (pss_done (ps_dret (pd_fn dx h_p_is_gap (hr.mono (by decide)) (pa_dcons (pd_var 1) (pa_dnil)))))
      (pss_dnil))
      (pss_done (ps_dret (pd_fn dx h_p_is_among (hr.mono (by decide)) (pa_dcons (pd_var 1) (pa_dcons (pd_int) (pa_dcons (pd_gintE T.m_MOST_KEY) (pa_dnil))))))))))))
theorem w_p_is_record {P : Program} {wd : World} {K : PySem.W.Frag} {mg : Str → Option Value} {base : Heap} {c_BadRecord c_HouseError c_BadName c_BadLine c_BadLetter c_BadChange c_BadZone c_BadTurn c_BadRow k_KINDS : Addr} (T : Txt K mg c_BadRecord c_HouseError c_BadName c_BadLine c_BadLetter c_BadChange c_BadZone c_BadTurn c_BadRow k_KINDS)  (h_p_is_name : Has P wd K mg base 3 "is_name" ps_p_is_name g_p_is_name) (h_p_is_kind : Has P wd K mg base 1 "is_kind" ps_p_is_kind g_p_is_kind) (h_p_is_live : Has P wd K mg base 2 "is_live" ps_p_is_live g_p_is_live) (h_p_is_data : Has P wd K mg base 5 "is_data" ps_p_is_data g_p_is_data)
    {f : Addr} {cdv : Value} {A : Around} {outer : List Env} {s : Shared} {H : Hp} {E : XK} {B : Bs} {EP : Value → Sto → Prop} (hr : Room 5 (A.deeper (envOfC "is_record" (defScope st_p_is_record) s.heap.objs.size f cdv)))
    (dx : DX (cxOf (L2.CX P wd) P wd K mg base N_p_is_record "is_record" (defScope st_p_is_record) f cdv A outer s H E) B (fun cls d _ H => E cls d H) (fun c _ S => EP c S)) :
    PSsD (cxOf (L2.CX P wd) P wd K mg base N_p_is_record "is_record" (defScope st_p_is_record) f cdv A outer s H E) B (defBody st_p_is_record) (t_p_is_record K c_BadRecord c_HouseError c_BadName c_BadLine c_BadLetter c_BadChange c_BadZone c_BadTurn c_BadRow k_KINDS fun c _ S => EP c S) := by
  have hu : (cxOf (L2.CX P wd) P wd K mg base N_p_is_record "is_record" (defScope st_p_is_record) f cdv A outer s H E).A.units + 100 < cLine := by
    have := hr.un
    show (A.deeper _).units + 100 < cLine
    omega
  have hu1 : (cxOf (L2.CX P wd) P wd K mg base N_p_is_record "is_record" (defScope st_p_is_record) f cdv A outer s H E).A.units + 1 < cLine := by omega
  have nd := sc_p_is_record.nd
  have hp : PassesOwn (model P wd) (cxOf (L2.CX P wd) P wd K mg base N_p_is_record "is_record" (defScope st_p_is_record) f cdv A outer s H E).A (cxOf (L2.CX P wd) P wd K mg base N_p_is_record "is_record" (defScope st_p_is_record) f cdv A outer s H E).env (cxOf (L2.CX P wd) P wd K mg base N_p_is_record "is_record" (defScope st_p_is_record) f cdv A outer s H E).xe := passes_of rfl
  exact pss_dcons (ps_dif ((pw_dor (pt_dnot (pt_d (pd_callB o_isi (by rfl) T.m_isinstance bb_isinstance (pb_cons (pb_of (pd_var 0)) (pb_cons (pb_of (pd_ty (by rfl) T.m_tuple bb_tuple)) (pb_nil)))))) (pw_dor (pt_dcmp (o_ne hu) (pb_of (pd_callB o_len (by rfl) T.m_len bb_len (pb_cons (pb_of (pd_var 0)) (pb_nil)))) (pb_of (pd_int))) (pw_dor (pt_dnot (pt_d (pd_fn dx h_p_is_name (hr.mono (by decide)) (pa_dcons (pd_ix (pb_of (pd_var 0)) (pb_of (pd_int))) (pa_dnil))))) (pw_dor1 (pt_dnot (pt_d (pd_fn dx h_p_is_kind (hr.mono (by decide)) (pa_dcons (pd_ix (pb_of (pd_var 0)) (pb_of (pd_int))) (pa_dnil))))))))).pt)
      (pss_done (ps_dret (pd_bl)))
      (pss_dnil))
      (pss_done (ps_dret (pd_and (pd_fn dx h_p_is_live (hr.mono (by decide)) (pa_dcons (pd_ix (pb_of (pd_var 0)) (pb_of (pd_int))) (pa_dnil))) (pd_one (pd_fn dx h_p_is_data (hr.mono (by decide)) (pa_dcons (pd_ix (pb_of (pd_var 0)) (pb_of (pd_int))) (pa_dcons (pd_ix (pb_of (pd_var 0)) (pb_of (pd_int))) (pa_dnil))))))))
theorem w_p_data_rank {P : Program} {wd : World} {K : PySem.W.Frag} {mg : Str → Option Value} {base : Heap} {c_BadRecord c_HouseError c_BadName c_BadLine c_BadLetter c_BadChange c_BadZone c_BadTurn c_BadRow k_KINDS : Addr} (T : Txt K mg c_BadRecord c_HouseError c_BadName c_BadLine c_BadLetter c_BadChange c_BadZone c_BadTurn c_BadRow k_KINDS)  (h_p_name_rank : Has P wd K mg base 1 "name_rank" ps_p_name_rank g_p_name_rank)
    {f : Addr} {cdv : Value} {A : Around} {outer : List Env} {s : Shared} {H : Hp} {E : XK} {B : Bs} {EP : Value → Sto → Prop} (hr : Room 1 (A.deeper (envOfC "data_rank" (defScope st_p_data_rank) s.heap.objs.size f cdv)))
    (dx : DX (cxOf (L2.CX P wd) P wd K mg base N_p_data_rank "data_rank" (defScope st_p_data_rank) f cdv A outer s H E) B (fun cls d _ H => E cls d H) (fun c _ S => EP c S)) :
    PSsD (cxOf (L2.CX P wd) P wd K mg base N_p_data_rank "data_rank" (defScope st_p_data_rank) f cdv A outer s H E) B (defBody st_p_data_rank) (t_p_data_rank K c_BadRecord c_HouseError c_BadName c_BadLine c_BadLetter c_BadChange c_BadZone c_BadTurn c_BadRow k_KINDS fun c _ S => EP c S) := by
  have hu : (cxOf (L2.CX P wd) P wd K mg base N_p_data_rank "data_rank" (defScope st_p_data_rank) f cdv A outer s H E).A.units + 100 < cLine := by
    have := hr.un
    show (A.deeper _).units + 100 < cLine
    omega
  have hu1 : (cxOf (L2.CX P wd) P wd K mg base N_p_data_rank "data_rank" (defScope st_p_data_rank) f cdv A outer s H E).A.units + 1 < cLine := by omega
  have nd := sc_p_data_rank.nd
  have hp : PassesOwn (model P wd) (cxOf (L2.CX P wd) P wd K mg base N_p_data_rank "data_rank" (defScope st_p_data_rank) f cdv A outer s H E).A (cxOf (L2.CX P wd) P wd K mg base N_p_data_rank "data_rank" (defScope st_p_data_rank) f cdv A outer s H E).env (cxOf (L2.CX P wd) P wd K mg base N_p_data_rank "data_rank" (defScope st_p_data_rank) f cdv A outer s H E).xe := passes_of rfl
  exact pss_dcons (ps_dif ((pw_dor (pt_dcmp (o_eq hu) (pb_of (pd_var 0)) (pb_of (pd_str))) (pw_dor1 (pt_dcmp (o_eq hu) (pb_of (pd_var 0)) (pb_of (pd_str))))).pt)
      (pss_done (ps_dret (pd_fn dx h_p_name_rank (hr.mono (by decide)) (pa_dcons (pd_var 1) (pa_dnil)))))
      (pss_dnil))
      (pss_dcons (ps_dif (pt_dcmp (o_eq hu) (pb_of (pd_var 0)) (pb_of (pd_str)))
      (pss_done (ps_dret (pd_tup (pa_dcons (pd_fn dx h_p_name_rank (hr.mono (by decide)) (pa_dcons (pd_ix (pb_of (pd_var 1)) (pb_of (pd_int))) (pa_dnil))) (pa_dcons (pd_ix (pb_of (pd_var 1)) (pb_of (pd_int))) (pa_dnil))))))
      (pss_dnil))
      (pss_done (ps_dret (pd_var 1))))
theorem w_p_record_rank {P : Program} {wd : World} {K : PySem.W.Frag} {mg : Str → Option Value} {base : Heap} {c_BadRecord c_HouseError c_BadName c_BadLine c_BadLetter c_BadChange c_BadZone c_BadTurn c_BadRow k_KINDS : Addr} (T : Txt K mg c_BadRecord c_HouseError c_BadName c_BadLine c_BadLetter c_BadChange c_BadZone c_BadTurn c_BadRow k_KINDS)  (h_p_data_rank : Has P wd K mg base 2 "data_rank" ps_p_data_rank g_p_data_rank) (h_p_name_rank : Has P wd K mg base 1 "name_rank" ps_p_name_rank g_p_name_rank)
    {f : Addr} {cdv : Value} {A : Around} {outer : List Env} {s : Shared} {H : Hp} {E : XK} {B : Bs} {EP : Value → Sto → Prop} (hr : Room 2 (A.deeper (envOfC "record_rank" (defScope st_p_record_rank) s.heap.objs.size f cdv)))
    (dx : DX (cxOf (L2.CX P wd) P wd K mg base N_p_record_rank "record_rank" (defScope st_p_record_rank) f cdv A outer s H E) B (fun cls d _ H => E cls d H) (fun c _ S => EP c S)) :
    PSsD (cxOf (L2.CX P wd) P wd K mg base N_p_record_rank "record_rank" (defScope st_p_record_rank) f cdv A outer s H E) B (defBody st_p_record_rank) (t_p_record_rank K c_BadRecord c_HouseError c_BadName c_BadLine c_BadLetter c_BadChange c_BadZone c_BadTurn c_BadRow k_KINDS fun c _ S => EP c S) := by
  have hu : (cxOf (L2.CX P wd) P wd K mg base N_p_record_rank "record_rank" (defScope st_p_record_rank) f cdv A outer s H E).A.units + 100 < cLine := by
    have := hr.un
    show (A.deeper _).units + 100 < cLine
    omega
  have hu1 : (cxOf (L2.CX P wd) P wd K mg base N_p_record_rank "record_rank" (defScope st_p_record_rank) f cdv A outer s H E).A.units + 1 < cLine := by omega
  have nd := sc_p_record_rank.nd
  have hp : PassesOwn (model P wd) (cxOf (L2.CX P wd) P wd K mg base N_p_record_rank "record_rank" (defScope st_p_record_rank) f cdv A outer s H E).A (cxOf (L2.CX P wd) P wd K mg base N_p_record_rank "record_rank" (defScope st_p_record_rank) f cdv A outer s H E).env (cxOf (L2.CX P wd) P wd K mg base N_p_record_rank "record_rank" (defScope st_p_record_rank) f cdv A outer s H E).xe := passes_of rfl
  exact pss_dcons (ps_dasg (pd_var 0) (pg_dtup rfl (pgs_dcons (pg_dname 1 nd rfl (Or.inl rfl)) (pgs_dcons (pg_dname 2 nd rfl (Or.inl rfl)) (pgs_dcons (pg_dname 3 nd rfl (Or.inl rfl)) (pgs_dcons (pg_dname 4 nd rfl (Or.inl rfl)) (pgs_dnil)))))))
      (pss_done (ps_dret (pd_tup (pa_dcons (pd_fn dx h_p_name_rank (hr.mono (by decide)) (pa_dcons (pd_var 1) (pa_dnil))) (pa_dcons (pd_var 2) (pa_dcons (pd_fn dx h_p_data_rank (hr.mono (by decide)) (pa_dcons (pd_var 2) (pa_dcons (pd_var 4) (pa_dnil)))) (pa_dcons (pd_var 3) (pa_dnil))))))))
theorem w_p_are_records {P : Program} {wd : World} {K : PySem.W.Frag} {mg : Str → Option Value} {base : Heap} {c_BadRecord c_HouseError c_BadName c_BadLine c_BadLetter c_BadChange c_BadZone c_BadTurn c_BadRow k_KINDS : Addr} (T : Txt K mg c_BadRecord c_HouseError c_BadName c_BadLine c_BadLetter c_BadChange c_BadZone c_BadTurn c_BadRow k_KINDS)  (h_p_is_record : Has P wd K mg base 6 "is_record" ps_p_is_record g_p_is_record)
    {f : Addr} {cdv : Value} {A : Around} {outer : List Env} {s : Shared} {H : Hp} {E : XK} {B : Bs} {EP : Value → Sto → Prop} (hr : Room 6 (A.deeper (envOfC "are_records" (defScope st_p_are_records) s.heap.objs.size f cdv)))
    (dx : DX (cxOf (L2.CX P wd) P wd K mg base N_p_are_records "are_records" (defScope st_p_are_records) f cdv A outer s H E) B (fun cls d _ H => E cls d H) (fun c _ S => EP c S)) :
    PSsD (cxOf (L2.CX P wd) P wd K mg base N_p_are_records "are_records" (defScope st_p_are_records) f cdv A outer s H E) B (defBody st_p_are_records) (t_p_are_records K c_BadRecord c_HouseError c_BadName c_BadLine c_BadLetter c_BadChange c_BadZone c_BadTurn c_BadRow k_KINDS fun c _ S => EP c S) := by
  have hu : (cxOf (L2.CX P wd) P wd K mg base N_p_are_records "are_records" (defScope st_p_are_records) f cdv A outer s H E).A.units + 100 < cLine := by
    have := hr.un
    show (A.deeper _).units + 100 < cLine
    omega
  have hu1 : (cxOf (L2.CX P wd) P wd K mg base N_p_are_records "are_records" (defScope st_p_are_records) f cdv A outer s H E).A.units + 1 < cLine := by omega
  have nd := sc_p_are_records.nd
  have hp : PassesOwn (model P wd) (cxOf (L2.CX P wd) P wd K mg base N_p_are_records "are_records" (defScope st_p_are_records) f cdv A outer s H E).A (cxOf (L2.CX P wd) P wd K mg base N_p_are_records "are_records" (defScope st_p_are_records) f cdv A outer s H E).env (cxOf (L2.CX P wd) P wd K mg base N_p_are_records "are_records" (defScope st_p_are_records) f cdv A outer s H E).xe := passes_of rfl
  exact pss_done (ps_dret (pd_and (pd_callB o_isi (by rfl) T.m_isinstance bb_isinstance (pb_cons (pb_of (pd_var 0)) (pb_cons (pb_of (pd_ty (by rfl) T.m_list bb_list)) (pb_nil)))) (pd_one (pd_callB (o_all rfl) (by rfl) T.m_all bb_all (pb_cons (pb_of (pd_fz (pf_lc (own := [(("record" : Str), 1)]) rfl nd (pi_dlist (pd_var 0)) (blkOk_by (N := N_p_are_records) (sc := defScope st_p_are_records) (by decide +kernel)) (fun _ _ _ _ _ => pg_name (i := 1) nd rfl (Or.inl rfl)) (gc_of (gc_name 1 (by decide))) (fun _ _ _ _ _ => pts_dnil) (fun _ _ _ _ _ => pd_fn dx0 h_p_is_record (hr.mono (by decide)) (pa_dcons (pd_var 1) (pa_dnil)))))) (pb_nil))))))
theorem w_p_in_order {P : Program} {wd : World} {K : PySem.W.Frag} {mg : Str → Option Value} {base : Heap} {c_BadRecord c_HouseError c_BadName c_BadLine c_BadLetter c_BadChange c_BadZone c_BadTurn c_BadRow k_KINDS : Addr} (T : Txt K mg c_BadRecord c_HouseError c_BadName c_BadLine c_BadLetter c_BadChange c_BadZone c_BadTurn c_BadRow k_KINDS)  (h_p_record_rank : Has P wd K mg base 3 "record_rank" ps_p_record_rank g_p_record_rank)
    {f : Addr} {cdv : Value} {A : Around} {outer : List Env} {s : Shared} {H : Hp} {E : XK} {B : Bs} {EP : Value → Sto → Prop} (hr : Room 4 (A.deeper (envOfC "in_order" (defScope st_p_in_order) s.heap.objs.size f cdv)))
    (dx : DX (cxOf (L2.CX P wd) P wd K mg base N_p_in_order "in_order" (defScope st_p_in_order) f cdv A outer s H E) B (fun cls d _ H => E cls d H) (fun c _ S => EP c S)) :
    PSsD (cxOf (L2.CX P wd) P wd K mg base N_p_in_order "in_order" (defScope st_p_in_order) f cdv A outer s H E) B (defBody st_p_in_order) (t_p_in_order K c_BadRecord c_HouseError c_BadName c_BadLine c_BadLetter c_BadChange c_BadZone c_BadTurn c_BadRow k_KINDS fun c _ S => EP c S) := by
  have hu : (cxOf (L2.CX P wd) P wd K mg base N_p_in_order "in_order" (defScope st_p_in_order) f cdv A outer s H E).A.units + 100 < cLine := by
    have := hr.un
    show (A.deeper _).units + 100 < cLine
    omega
  have hu1 : (cxOf (L2.CX P wd) P wd K mg base N_p_in_order "in_order" (defScope st_p_in_order) f cdv A outer s H E).A.units + 1 < cLine := by omega
  have nd := sc_p_in_order.nd
  have hp : PassesOwn (model P wd) (cxOf (L2.CX P wd) P wd K mg base N_p_in_order "in_order" (defScope st_p_in_order) f cdv A outer s H E).A (cxOf (L2.CX P wd) P wd K mg base N_p_in_order "in_order" (defScope st_p_in_order) f cdv A outer s H E).env (cxOf (L2.CX P wd) P wd K mg base N_p_in_order "in_order" (defScope st_p_in_order) f cdv A outer s H E).xe := passes_of rfl
  exact pss_done (ps_dretF (pf_sortK rrD h_p_record_rank (hr.mono (by decide)) (by rfl) T.m_sorted (pb_of (pd_var 0))))
theorem w_p_ordered {P : Program} {wd : World} {K : PySem.W.Frag} {mg : Str → Option Value} {base : Heap} {c_BadRecord c_HouseError c_BadName c_BadLine c_BadLetter c_BadChange c_BadZone c_BadTurn c_BadRow k_KINDS : Addr} (T : Txt K mg c_BadRecord c_HouseError c_BadName c_BadLine c_BadLetter c_BadChange c_BadZone c_BadTurn c_BadRow k_KINDS)  (h_p_are_records : Has P wd K mg base 7 "are_records" ps_p_are_records g_p_are_records) (h_p_in_order : Has P wd K mg base 5 "in_order" ps_p_in_order g_p_in_order)
    {f : Addr} {cdv : Value} {A : Around} {outer : List Env} {s : Shared} {H : Hp} {E : XK} {B : Bs} {EP : Value → Sto → Prop} (hr : Room 7 (A.deeper (envOfC "ordered" (defScope st_p_ordered) s.heap.objs.size f cdv)))
    (dx : DX (cxOf (L2.CX P wd) P wd K mg base N_p_ordered "ordered" (defScope st_p_ordered) f cdv A outer s H E) B (fun cls d _ H => E cls d H) (fun c _ S => EP c S)) :
    PSsD (cxOf (L2.CX P wd) P wd K mg base N_p_ordered "ordered" (defScope st_p_ordered) f cdv A outer s H E) B (defBody st_p_ordered) (t_p_ordered K c_BadRecord c_HouseError c_BadName c_BadLine c_BadLetter c_BadChange c_BadZone c_BadTurn c_BadRow k_KINDS fun c _ S => EP c S) := by
  have hu : (cxOf (L2.CX P wd) P wd K mg base N_p_ordered "ordered" (defScope st_p_ordered) f cdv A outer s H E).A.units + 100 < cLine := by
    have := hr.un
    show (A.deeper _).units + 100 < cLine
    omega
  have hu1 : (cxOf (L2.CX P wd) P wd K mg base N_p_ordered "ordered" (defScope st_p_ordered) f cdv A outer s H E).A.units + 1 < cLine := by omega
  have nd := sc_p_ordered.nd
  have hp : PassesOwn (model P wd) (cxOf (L2.CX P wd) P wd K mg base N_p_ordered "ordered" (defScope st_p_ordered) f cdv A outer s H E).A (cxOf (L2.CX P wd) P wd K mg base N_p_ordered "ordered" (defScope st_p_ordered) f cdv A outer s H E).env (cxOf (L2.CX P wd) P wd K mg base N_p_ordered "ordered" (defScope st_p_ordered) f cdv A outer s H E).xe := passes_of rfl
  exact pss_dcons (ps_dif (pt_dnot (pt_d (pd_fn dx h_p_are_records (hr.mono (by decide)) (pa_dcons (pd_var 0) (pa_dnil)))))
      (pss_done (ps_draiseD rfl dx T.x_BadRecord))
      (pss_dnil))
      (pss_done (ps_dretF (pf_fn dx h_p_in_order (hr.mono (by decide)) (pa_dcons (pd_var 0) (pa_dnil)))))
theorem w_cell_at {P : Program} {wd : World} {K : PySem.W.Frag} {mg : Str → Option Value} {base : Heap} {c_BadRecord c_HouseError c_BadName c_BadLine c_BadLetter c_BadChange c_BadZone c_BadTurn c_BadRow k_KINDS : Addr} (T : Txt K mg c_BadRecord c_HouseError c_BadName c_BadLine c_BadLetter c_BadChange c_BadZone c_BadTurn c_BadRow k_KINDS)  
    {f : Addr} {cdv : Value} {A : Around} {outer : List Env} {s : Shared} {H : Hp} {E : XK} {B : Bs} {EP : Value → Sto → Prop} (hr : Room 0 (A.deeper (envOfC "_law_cell_at" (defScope st_cell_at) s.heap.objs.size f cdv)))
    (dx : DX (cxOf (L2.CX P wd) P wd K mg base N_cell_at "_law_cell_at" (defScope st_cell_at) f cdv A outer s H E) B (fun cls d _ H => E cls d H) (fun c _ S => EP c S)) :
    PSsD (cxOf (L2.CX P wd) P wd K mg base N_cell_at "_law_cell_at" (defScope st_cell_at) f cdv A outer s H E) B (defBody st_cell_at) (t_cell_at K c_BadRecord c_HouseError c_BadName c_BadLine c_BadLetter c_BadChange c_BadZone c_BadTurn c_BadRow k_KINDS fun c _ S => EP c S) := by
  have hu : (cxOf (L2.CX P wd) P wd K mg base N_cell_at "_law_cell_at" (defScope st_cell_at) f cdv A outer s H E).A.units + 100 < cLine := by
    have := hr.un
    show (A.deeper _).units + 100 < cLine
    omega
  have hu1 : (cxOf (L2.CX P wd) P wd K mg base N_cell_at "_law_cell_at" (defScope st_cell_at) f cdv A outer s H E).A.units + 1 < cLine := by omega
  have nd := sc_cell_at.nd
  have hp : PassesOwn (model P wd) (cxOf (L2.CX P wd) P wd K mg base N_cell_at "_law_cell_at" (defScope st_cell_at) f cdv A outer s H E).A (cxOf (L2.CX P wd) P wd K mg base N_cell_at "_law_cell_at" (defScope st_cell_at) f cdv A outer s H E).env (cxOf (L2.CX P wd) P wd K mg base N_cell_at "_law_cell_at" (defScope st_cell_at) f cdv A outer s H E).xe := passes_of rfl
  exact pss_dcons (ps_dif (pt_dcmp (o_ltS) (pb_of (pd_var 1)) (pb_of (pd_callB o_len (by rfl) T.m_len bb_len (pb_cons (pb_of (pd_var 0)) (pb_nil)))))
      (pss_done (ps_dret (pd_ix (pb_of (pd_var 0)) (pb_of (pd_var 1)))))
      (pss_dnil))
      (pss_done (ps_dret (pd_int)))
theorem w_next {P : Program} {wd : World} {K : PySem.W.Frag} {mg : Str → Option Value} {base : Heap} {c_BadRecord c_HouseError c_BadName c_BadLine c_BadLetter c_BadChange c_BadZone c_BadTurn c_BadRow k_KINDS : Addr} (T : Txt K mg c_BadRecord c_HouseError c_BadName c_BadLine c_BadLetter c_BadChange c_BadZone c_BadTurn c_BadRow k_KINDS)  (h_cell_at : Has P wd K mg base 1 "_law_cell_at" ps_cell_at g_cell_at)
    {f : Addr} {cdv : Value} {A : Around} {outer : List Env} {s : Shared} {H : Hp} {E : XK} {B : Bs} {EP : Value → Sto → Prop} (hr : Room 1 (A.deeper (envOfC "_law_next" (defScope st_next) s.heap.objs.size f cdv)))
    (dx : DX (cxOf (L2.CX P wd) P wd K mg base N_next "_law_next" (defScope st_next) f cdv A outer s H E) B (fun cls d _ H => E cls d H) (fun c _ S => EP c S)) :
    PSsD (cxOf (L2.CX P wd) P wd K mg base N_next "_law_next" (defScope st_next) f cdv A outer s H E) B (defBody st_next) (t_next K c_BadRecord c_HouseError c_BadName c_BadLine c_BadLetter c_BadChange c_BadZone c_BadTurn c_BadRow k_KINDS fun c _ S => EP c S) := by
  have hu : (cxOf (L2.CX P wd) P wd K mg base N_next "_law_next" (defScope st_next) f cdv A outer s H E).A.units + 100 < cLine := by
    have := hr.un
    show (A.deeper _).units + 100 < cLine
    omega
  have hu1 : (cxOf (L2.CX P wd) P wd K mg base N_next "_law_next" (defScope st_next) f cdv A outer s H E).A.units + 1 < cLine := by omega
  have nd := sc_next.nd
  have hp : PassesOwn (model P wd) (cxOf (L2.CX P wd) P wd K mg base N_next "_law_next" (defScope st_next) f cdv A outer s H E).A (cxOf (L2.CX P wd) P wd K mg base N_next "_law_next" (defScope st_next) f cdv A outer s H E).env (cxOf (L2.CX P wd) P wd K mg base N_next "_law_next" (defScope st_next) f cdv A outer s H E).xe := passes_of rfl
  exact pss_dcons (ps_recset hu1 (by decide +kernel) (by decide) 1 (by rfl) (pd_var 0) (pd_op o_add (pb_of (pd_recget hu1 (by decide +kernel) 1 (by rfl) (pd_var 0))) (pb_of (pd_int))))
      (pss_dcons (ps_dset 1 nd (pd_recget hu1 (by decide +kernel) 1 (by rfl) (pd_var 0)) rfl (Or.inl rfl))
      (pss_dcons (ps_dset 2 nd (pd_fn dx h_cell_at (hr.mono (by decide)) (pa_dcons (pd_recget hu1 (by decide +kernel) 0 (by rfl) (pd_var 0)) (pa_dcons (pd_op o_mod (pb_of (pd_var 1)) (pb_of (pd_callB (o_max2 rfl) (by rfl) T.m_max bb_max (pb_cons (pb_of (pd_int)) (pb_cons (pb_of (pd_callB o_len (by rfl) T.m_len bb_len (pb_cons (pb_of (pd_recget hu1 (by decide +kernel) 0 (by rfl) (pd_var 0))) (pb_nil)))) (pb_nil)))))) (pa_dnil)))) rfl (Or.inl rfl))
      (pss_done (ps_dret (pd_op o_fdiv (pb_of (pd_op o_mod (pb_of (pd_op o_add (pb_of (pd_op o_mul (pb_of (pd_var 2)) (pb_of (pd_int)))) (pb_of (pd_op o_mul (pb_of (pd_op o_mul (pb_of (pd_var 1)) (pb_of (pd_var 1)))) (pb_of (pd_int)))))) (pb_of (pd_int)))) (pb_of (pd_int)))))))
theorem w_great {P : Program} {wd : World} {K : PySem.W.Frag} {mg : Str → Option Value} {base : Heap} {c_BadRecord c_HouseError c_BadName c_BadLine c_BadLetter c_BadChange c_BadZone c_BadTurn c_BadRow k_KINDS : Addr} (T : Txt K mg c_BadRecord c_HouseError c_BadName c_BadLine c_BadLetter c_BadChange c_BadZone c_BadTurn c_BadRow k_KINDS)  (h_next : Has P wd K mg base 2 "_law_next" ps_next g_next)
    {f : Addr} {cdv : Value} {A : Around} {outer : List Env} {s : Shared} {H : Hp} {E : XK} {B : Bs} {EP : Value → Sto → Prop} (hr : Room 2 (A.deeper (envOfC "_law_great" (defScope st_great) s.heap.objs.size f cdv)))
    (dx : DX (cxOf (L2.CX P wd) P wd K mg base N_great "_law_great" (defScope st_great) f cdv A outer s H E) B (fun cls d _ H => E cls d H) (fun c _ S => EP c S)) :
    PSsD (cxOf (L2.CX P wd) P wd K mg base N_great "_law_great" (defScope st_great) f cdv A outer s H E) B (defBody st_great) (t_great K c_BadRecord c_HouseError c_BadName c_BadLine c_BadLetter c_BadChange c_BadZone c_BadTurn c_BadRow k_KINDS fun c _ S => EP c S) := by
  have hu : (cxOf (L2.CX P wd) P wd K mg base N_great "_law_great" (defScope st_great) f cdv A outer s H E).A.units + 100 < cLine := by
    have := hr.un
    show (A.deeper _).units + 100 < cLine
    omega
  have hu1 : (cxOf (L2.CX P wd) P wd K mg base N_great "_law_great" (defScope st_great) f cdv A outer s H E).A.units + 1 < cLine := by omega
  have nd := sc_great.nd
  have hp : PassesOwn (model P wd) (cxOf (L2.CX P wd) P wd K mg base N_great "_law_great" (defScope st_great) f cdv A outer s H E).A (cxOf (L2.CX P wd) P wd K mg base N_great "_law_great" (defScope st_great) f cdv A outer s H E).env (cxOf (L2.CX P wd) P wd K mg base N_great "_law_great" (defScope st_great) f cdv A outer s H E).xe := passes_of rfl
  exact pss_dcons (ps_dset 2 nd (pd_fn dx h_next (hr.mono (by decide)) (pa_dcons (pd_var 0) (pa_dnil))) rfl (Or.inl rfl))
      (pss_dcons (ps_dset 3 nd (pd_op o_add (pb_of (pd_op o_mul (pb_of (pd_op o_add (pb_of (pd_op o_mul (pb_of (pd_var 2)) (pb_of (pd_int)))) (pb_of (pd_fn dx h_next (hr.mono (by decide)) (pa_dcons (pd_var 0) (pa_dnil)))))) (pb_of (pd_int)))) (pb_of (pd_fn dx h_next (hr.mono (by decide)) (pa_dcons (pd_var 0) (pa_dnil))))) rfl (Or.inl rfl))
      (pss_done (ps_dret (pd_ix (pb_of (pd_fz (pf_lst (pa_dcons (pd_int) (pa_dcons (pd_int) (pa_dcons (pd_var 1) (pa_dcons (pd_op o_sub (pb_of (pd_var 1)) (pb_of (pd_int))) (pa_dcons (pd_op o_mod (pb_of (pd_var 3)) (pb_of (pd_op o_add (pb_of (pd_var 1)) (pb_of (pd_int))))) (pa_dcons (pd_op o_mod (pb_of (pd_var 3)) (pb_of (pd_op o_add (pb_of (pd_var 1)) (pb_of (pd_int))))) (pa_dcons (pd_op o_mod (pb_of (pd_op o_mod (pb_of (pd_var 2)) (pb_of (pd_int)))) (pb_of (pd_op o_add (pb_of (pd_var 1)) (pb_of (pd_int))))) (pa_dnil))))))))))) (pb_of (pd_op o_mod (pb_of (pd_var 2)) (pb_of (pd_int))))))))
theorem w_signs {P : Program} {wd : World} {K : PySem.W.Frag} {mg : Str → Option Value} {base : Heap} {c_BadRecord c_HouseError c_BadName c_BadLine c_BadLetter c_BadChange c_BadZone c_BadTurn c_BadRow k_KINDS : Addr} (T : Txt K mg c_BadRecord c_HouseError c_BadName c_BadLine c_BadLetter c_BadChange c_BadZone c_BadTurn c_BadRow k_KINDS)  
    {f : Addr} {cdv : Value} {A : Around} {outer : List Env} {s : Shared} {H : Hp} {E : XK} {B : Bs} {EP : Value → Sto → Prop} (hr : Room 0 (A.deeper (envOfC "_law_signs" (defScope st_signs) s.heap.objs.size f cdv)))
    (dx : DX (cxOf (L2.CX P wd) P wd K mg base N_signs "_law_signs" (defScope st_signs) f cdv A outer s H E) B (fun cls d _ H => E cls d H) (fun c _ S => EP c S)) :
    PSsD (cxOf (L2.CX P wd) P wd K mg base N_signs "_law_signs" (defScope st_signs) f cdv A outer s H E) B (defBody st_signs) (t_signs K c_BadRecord c_HouseError c_BadName c_BadLine c_BadLetter c_BadChange c_BadZone c_BadTurn c_BadRow k_KINDS fun c _ S => EP c S) := by
  have hu : (cxOf (L2.CX P wd) P wd K mg base N_signs "_law_signs" (defScope st_signs) f cdv A outer s H E).A.units + 100 < cLine := by
    have := hr.un
    show (A.deeper _).units + 100 < cLine
    omega
  have hu1 : (cxOf (L2.CX P wd) P wd K mg base N_signs "_law_signs" (defScope st_signs) f cdv A outer s H E).A.units + 1 < cLine := by omega
  have nd := sc_signs.nd
  have hp : PassesOwn (model P wd) (cxOf (L2.CX P wd) P wd K mg base N_signs "_law_signs" (defScope st_signs) f cdv A outer s H E).A (cxOf (L2.CX P wd) P wd K mg base N_signs "_law_signs" (defScope st_signs) f cdv A outer s H E).env (cxOf (L2.CX P wd) P wd K mg base N_signs "_law_signs" (defScope st_signs) f cdv A outer s H E).xe := passes_of rfl
  exact pss_done (ps_dret (pd_str))
theorem w_label {P : Program} {wd : World} {K : PySem.W.Frag} {mg : Str → Option Value} {base : Heap} {c_BadRecord c_HouseError c_BadName c_BadLine c_BadLetter c_BadChange c_BadZone c_BadTurn c_BadRow k_KINDS : Addr} (T : Txt K mg c_BadRecord c_HouseError c_BadName c_BadLine c_BadLetter c_BadChange c_BadZone c_BadTurn c_BadRow k_KINDS)  (h_signs : Has P wd K mg base 1 "_law_signs" ps_signs g_signs)
    {f : Addr} {cdv : Value} {A : Around} {outer : List Env} {s : Shared} {H : Hp} {E : XK} {B : Bs} {EP : Value → Sto → Prop} (hr : Room 1 (A.deeper (envOfC "_law_label" (defScope st_label) s.heap.objs.size f cdv)))
    (dx : DX (cxOf (L2.CX P wd) P wd K mg base N_label "_law_label" (defScope st_label) f cdv A outer s H E) B (fun cls d _ H => E cls d H) (fun c _ S => EP c S)) :
    PSsD (cxOf (L2.CX P wd) P wd K mg base N_label "_law_label" (defScope st_label) f cdv A outer s H E) B (defBody st_label) (t_label K c_BadRecord c_HouseError c_BadName c_BadLine c_BadLetter c_BadChange c_BadZone c_BadTurn c_BadRow k_KINDS fun c _ S => EP c S) := by
  have hu : (cxOf (L2.CX P wd) P wd K mg base N_label "_law_label" (defScope st_label) f cdv A outer s H E).A.units + 100 < cLine := by
    have := hr.un
    show (A.deeper _).units + 100 < cLine
    omega
  have hu1 : (cxOf (L2.CX P wd) P wd K mg base N_label "_law_label" (defScope st_label) f cdv A outer s H E).A.units + 1 < cLine := by omega
  have nd := sc_label.nd
  have hp : PassesOwn (model P wd) (cxOf (L2.CX P wd) P wd K mg base N_label "_law_label" (defScope st_label) f cdv A outer s H E).A (cxOf (L2.CX P wd) P wd K mg base N_label "_law_label" (defScope st_label) f cdv A outer s H E).env (cxOf (L2.CX P wd) P wd K mg base N_label "_law_label" (defScope st_label) f cdv A outer s H E).xe := passes_of rfl
  exact pss_dcons (ps_dset 2 nd (pd_fn0 h_signs (hr.mono (by decide))) rfl (Or.inr rfl))
      (pss_done (ps_dret (pd_join (pb_of (pd_str)) (pb_of (pd_fz (pf_lc (own := [(("_law_k" : Str), 3)]) rfl nd (pi_drange1 (by rfl) T.m_range (pa_dcons (pd_var 1) (pa_dnil))) (blkOk_by (N := N_label) (sc := defScope st_label) (by decide +kernel)) (fun _ _ _ _ _ => pg_name (i := 3) nd rfl (Or.inl rfl)) (gc_of (gc_name 3 (by decide))) (fun _ _ _ _ _ => pts_dnil) (fun _ _ _ _ _ => pd_ix (pb_of (pd_var 2)) (pb_of (pd_op o_mod (pb_of (pd_op o_add (pb_of (pd_op o_add (pb_of (pd_op o_fdiv (pb_of (pd_var 0)) (pb_of (pd_int)))) (pb_of (pd_op o_mul (pb_of (pd_op o_mul (pb_of (pd_int)) (pb_of (pd_var 3)))) (pb_of (pd_var 3)))))) (pb_of (pd_op o_mul (pb_of (pd_int)) (pb_of (pd_var 3)))))) (pb_of (pd_int)))))))))))
theorem w_labels {P : Program} {wd : World} {K : PySem.W.Frag} {mg : Str → Option Value} {base : Heap} {c_BadRecord c_HouseError c_BadName c_BadLine c_BadLetter c_BadChange c_BadZone c_BadTurn c_BadRow k_KINDS : Addr} (T : Txt K mg c_BadRecord c_HouseError c_BadName c_BadLine c_BadLetter c_BadChange c_BadZone c_BadTurn c_BadRow k_KINDS)  (h_label : Has P wd K mg base 2 "_law_label" ps_label g_label) (h_next : Has P wd K mg base 2 "_law_next" ps_next g_next) (h_signs : Has P wd K mg base 1 "_law_signs" ps_signs g_signs)
    {f : Addr} {cdv : Value} {A : Around} {outer : List Env} {s : Shared} {H : Hp} {E : XK} {B : Bs} {EP : Value → Sto → Prop} (hr : Room 2 (A.deeper (envOfC "_law_labels" (defScope st_labels) s.heap.objs.size f cdv)))
    (dx : DX (cxOf (L2.CX P wd) P wd K mg base N_labels "_law_labels" (defScope st_labels) f cdv A outer s H E) B (fun cls d _ H => E cls d H) (fun c _ S => EP c S)) :
    PSsD (cxOf (L2.CX P wd) P wd K mg base N_labels "_law_labels" (defScope st_labels) f cdv A outer s H E) B (defBody st_labels) (t_labels K c_BadRecord c_HouseError c_BadName c_BadLine c_BadLetter c_BadChange c_BadZone c_BadTurn c_BadRow k_KINDS fun c _ S => EP c S) := by
  have hu : (cxOf (L2.CX P wd) P wd K mg base N_labels "_law_labels" (defScope st_labels) f cdv A outer s H E).A.units + 100 < cLine := by
    have := hr.un
    show (A.deeper _).units + 100 < cLine
    omega
  have hu1 : (cxOf (L2.CX P wd) P wd K mg base N_labels "_law_labels" (defScope st_labels) f cdv A outer s H E).A.units + 1 < cLine := by omega
  have nd := sc_labels.nd
  have hp : PassesOwn (model P wd) (cxOf (L2.CX P wd) P wd K mg base N_labels "_law_labels" (defScope st_labels) f cdv A outer s H E).A (cxOf (L2.CX P wd) P wd K mg base N_labels "_law_labels" (defScope st_labels) f cdv A outer s H E).env (cxOf (L2.CX P wd) P wd K mg base N_labels "_law_labels" (defScope st_labels) f cdv A outer s H E).xe := passes_of rfl
  exact pss_dcons (ps_dset 1 nd (pd_fn dx h_label (hr.mono (by decide)) (pa_dcons (pd_fn dx h_next (hr.mono (by decide)) (pa_dcons (pd_var 0) (pa_dnil))) (pa_dcons (pd_int) (pa_dnil)))) rfl (Or.inl rfl))
      (pss_dcons (ps_dsetF 2 nd (pf_lst (pa_dnil)) rfl (Or.inl rfl))
      (pss_dcons (ps_dfor hp rfl (pi_drange1 (by rfl) T.m_range (pa_dcons (pd_int) (pa_dnil))) (pg_dname 3 nd rfl (Or.inl rfl)) (fun B u1 => pss_dcons (ps_dset 4 nd (pd_fn (dx.up u1) h_next (hr.mono (by decide)) (pa_dcons (pd_var 0) (pa_dnil))) rfl (Or.inl rfl))
      (pss_dcons (ps_dset 6 nd (pd_ix (pb_of (pd_fz (pf_lst (pa_dcons (pd_int) (pa_dcons (pd_int) (pa_dcons (pd_op o_add (pb_of (pd_int)) (pb_of (pd_op o_mod (pb_of (pd_op o_fdiv (pb_of (pd_var 4)) (pb_of (pd_int)))) (pb_of (pd_int))))) (pa_dcons (pd_int) (pa_dcons (pd_int) (pa_dnil))))))))) (pb_of (pd_op o_mod (pb_of (pd_var 4)) (pb_of (pd_int))))) rfl (Or.inl rfl))
      (pss_dcons (ps_dset 7 nd (pd_op o_mod (pb_of (pd_op o_fdiv (pb_of (pd_var 4)) (pb_of (pd_int)))) (pb_of (pd_var 6))) rfl (Or.inl rfl))
      (pss_dcons (ps_dset 5 nd (pd_ix (pb_of (pd_fn0 h_signs (hr.mono (by decide)))) (pb_of (pd_op o_mod (pb_of (pd_op o_fdiv (pb_of (pd_var 4)) (pb_of (pd_int)))) (pb_of (pd_int))))) rfl (Or.inl rfl))
      (pss_done (ps_dapp 2 (pd_op o_add (pb_of (pd_op o_add (pb_of (pd_slice (pb_of (pd_var 1)) (pp_none) (pp_some (pd_var 7)))) (pb_of (pd_var 5)))) (pb_of (pd_slice (pb_of (pd_var 1)) (pp_some (pd_op o_add (pb_of (pd_var 7)) (pb_of (pd_int)))) (pp_some (pd_var 6))))))))))))
      (pss_dcons (ps_dset 4 nd (pd_fn dx h_next (hr.mono (by decide)) (pa_dcons (pd_var 0) (pa_dnil))) rfl (Or.inl rfl))
      (pss_dcons (ps_dset 5 nd (pd_ix (pb_of (pd_fn0 h_signs (hr.mono (by decide)))) (pb_of (pd_op o_mod (pb_of (pd_op o_fdiv (pb_of (pd_var 4)) (pb_of (pd_int)))) (pb_of (pd_int))))) rfl (Or.inl rfl))
      (pss_dcons (ps_dapp 2 (pd_ifExp (pt_dcmp (o_ltS) (pb_of (pd_callB o_len (by rfl) T.m_len bb_len (pb_cons (pb_of (pd_ix (pb_var 2) (pb_of (pd_int)))) (pb_nil)))) (pb_of (pd_int))) (pd_slice (pb_of (pd_op o_add (pb_of (pd_var 5)) (pb_of (pd_ix (pb_var 2) (pb_of (pd_int)))))) (pp_none) (pp_some (pd_int))) (pd_slice (pb_of (pd_ix (pb_var 2) (pb_of (pd_int)))) (pp_some (pd_int)) (pp_none))))
      (pss_done (ps_dret (pd_fz (pf_op o_cat (pb_var 2) (pb_of (pd_fz (pf_lst (pa_dcons (pd_op o_add (pb_of (pd_op o_add (pb_of (pd_slice (pb_of (pd_ix (pb_var 2) (pb_of (pd_op o_mod (pb_of (pd_var 4)) (pb_of (pd_int)))))) (pp_none) (pp_some (pd_int)))) (pb_of (pd_str)))) (pb_of (pd_op o_mul (pb_of (pd_var 5)) (pb_of (pd_op o_mod (pb_of (pd_op o_fdiv (pb_of (pd_var 4)) (pb_of (pd_int)))) (pb_of (pd_int))))))) (pa_dnil))))))))))))))
theorem w_name {P : Program} {wd : World} {K : PySem.W.Frag} {mg : Str → Option Value} {base : Heap} {c_BadRecord c_HouseError c_BadName c_BadLine c_BadLetter c_BadChange c_BadZone c_BadTurn c_BadRow k_KINDS : Addr} (T : Txt K mg c_BadRecord c_HouseError c_BadName c_BadLine c_BadLetter c_BadChange c_BadZone c_BadTurn c_BadRow k_KINDS)  (h_next : Has P wd K mg base 2 "_law_next" ps_next g_next)
    {f : Addr} {cdv : Value} {A : Around} {outer : List Env} {s : Shared} {H : Hp} {E : XK} {B : Bs} {EP : Value → Sto → Prop} (hr : Room 2 (A.deeper (envOfC "_law_name" (defScope st_name) s.heap.objs.size f cdv)))
    (dx : DX (cxOf (L2.CX P wd) P wd K mg base N_name "_law_name" (defScope st_name) f cdv A outer s H E) B (fun cls d _ H => E cls d H) (fun c _ S => EP c S)) :
    PSsD (cxOf (L2.CX P wd) P wd K mg base N_name "_law_name" (defScope st_name) f cdv A outer s H E) B (defBody st_name) (t_name K c_BadRecord c_HouseError c_BadName c_BadLine c_BadLetter c_BadChange c_BadZone c_BadTurn c_BadRow k_KINDS fun c _ S => EP c S) := by
  have hu : (cxOf (L2.CX P wd) P wd K mg base N_name "_law_name" (defScope st_name) f cdv A outer s H E).A.units + 100 < cLine := by
    have := hr.un
    show (A.deeper _).units + 100 < cLine
    omega
  have hu1 : (cxOf (L2.CX P wd) P wd K mg base N_name "_law_name" (defScope st_name) f cdv A outer s H E).A.units + 1 < cLine := by omega
  have nd := sc_name.nd
  have hp : PassesOwn (model P wd) (cxOf (L2.CX P wd) P wd K mg base N_name "_law_name" (defScope st_name) f cdv A outer s H E).A (cxOf (L2.CX P wd) P wd K mg base N_name "_law_name" (defScope st_name) f cdv A outer s H E).env (cxOf (L2.CX P wd) P wd K mg base N_name "_law_name" (defScope st_name) f cdv A outer s H E).xe := passes_of rfl
  exact pss_dcons (ps_dset 2 nd (pd_fn dx h_next (hr.mono (by decide)) (pa_dcons (pd_var 0) (pa_dnil))) rfl (Or.inl rfl))
      (pss_dcons (ps_dset 3 nd (pd_ix (pb_of (pd_fz (pf_lst (pa_dcons (pd_int) (pa_dcons (pd_int) (pa_dcons (pd_int) (pa_dcons (pd_int) (pa_dcons (pd_int) (pa_dcons (pd_int) (pa_dcons (pd_int) (pa_dnil))))))))))) (pb_of (pd_op o_mod (pb_of (pd_var 2)) (pb_of (pd_int))))) rfl (Or.inl rfl))
      (pss_dcons (ps_dsetLc (ps_setLc (own := [(("_law_turn" : Str), 5)]) (i := 4) rfl nd rfl rfl (sw_true rfl rfl rfl (by decide +kernel)) (pi_drange1 (by rfl) T.m_range (pa_dcons (pd_var 3) (pa_dnil))) (blkOk_by (N := N_name) (sc := defScope st_name) (by decide +kernel)) (fun _ _ _ _ _ => pg_name (i := 5) nd rfl (Or.inl rfl))  (fun _ _ _ _ _ => pts_dnil) (fun _ _ _ _ _ => pd_ix (pb_of (pd_var 1)) (pb_of (pd_op o_mod (pb_of (pd_fn dx0 h_next (hr.mono (by decide)) (pa_dcons (pd_var 0) (pa_dnil)))) (pb_of (pd_int)))))) (pf_comp (gc_of (gc_name 5 (by decide)))))
      (pss_dcons (ps_dif ((pw_dand (pt_dcmp (o_ne hu) (pb_var 4) (pb_of (pd_fz (pf_lst (pa_dnil))))) (pw_dand1 (pt_dcmp (o_eq hu) (pb_of (pd_op o_mod (pb_of (pd_op o_fdiv (pb_of (pd_var 2)) (pb_of (pd_int)))) (pb_of (pd_int)))) (pb_of (pd_int))))).pt)
      (pss_done (ps_dixset 4 (pd_str) (pd_int)))
      (pss_dnil))
      (pss_done (ps_dret (pd_callTy o_tuple (by rfl) T.m_tuple bb_tuple (pb_cons (pb_var 4) (pb_nil))))))))
theorem w_plain {P : Program} {wd : World} {K : PySem.W.Frag} {mg : Str → Option Value} {base : Heap} {c_BadRecord c_HouseError c_BadName c_BadLine c_BadLetter c_BadChange c_BadZone c_BadTurn c_BadRow k_KINDS : Addr} (T : Txt K mg c_BadRecord c_HouseError c_BadName c_BadLine c_BadLetter c_BadChange c_BadZone c_BadTurn c_BadRow k_KINDS)  (h_name : Has P wd K mg base 3 "_law_name" ps_name g_name)
    {f : Addr} {cdv : Value} {A : Around} {outer : List Env} {s : Shared} {H : Hp} {E : XK} {B : Bs} {EP : Value → Sto → Prop} (hr : Room 3 (A.deeper (envOfC "_law_plain" (defScope st_plain) s.heap.objs.size f cdv)))
    (dx : DX (cxOf (L2.CX P wd) P wd K mg base N_plain "_law_plain" (defScope st_plain) f cdv A outer s H E) B (fun cls d _ H => E cls d H) (fun c _ S => EP c S)) :
    PSsD (cxOf (L2.CX P wd) P wd K mg base N_plain "_law_plain" (defScope st_plain) f cdv A outer s H E) B (defBody st_plain) (t_plain K c_BadRecord c_HouseError c_BadName c_BadLine c_BadLetter c_BadChange c_BadZone c_BadTurn c_BadRow k_KINDS fun c _ S => EP c S) := by
  have hu : (cxOf (L2.CX P wd) P wd K mg base N_plain "_law_plain" (defScope st_plain) f cdv A outer s H E).A.units + 100 < cLine := by
    have := hr.un
    show (A.deeper _).units + 100 < cLine
    omega
  have hu1 : (cxOf (L2.CX P wd) P wd K mg base N_plain "_law_plain" (defScope st_plain) f cdv A outer s H E).A.units + 1 < cLine := by omega
  have nd := sc_plain.nd
  have hp : PassesOwn (model P wd) (cxOf (L2.CX P wd) P wd K mg base N_plain "_law_plain" (defScope st_plain) f cdv A outer s H E).A (cxOf (L2.CX P wd) P wd K mg base N_plain "_law_plain" (defScope st_plain) f cdv A outer s H E).env (cxOf (L2.CX P wd) P wd K mg base N_plain "_law_plain" (defScope st_plain) f cdv A outer s H E).xe := passes_of rfl
  exact pss_dcons (ps_dset 2 nd (pd_fn dx h_name (hr.mono (by decide)) (pa_dcons (pd_var 0) (pa_dcons (pd_var 1) (pa_dnil)))) rfl (Or.inl rfl))
      (pss_done (ps_dret (pd_ifExp (pt_dcmp (o_eq hu) (pb_of (pd_slice (pb_of (pd_var 2)) (pp_none) (pp_some (pd_int)))) (pb_of (pd_tup (pa_dcons (pd_str) (pa_dnil))))) (pd_slice (pb_of (pd_var 2)) (pp_some (pd_int)) (pp_none)) (pd_var 2))))
theorem w_text {P : Program} {wd : World} {K : PySem.W.Frag} {mg : Str → Option Value} {base : Heap} {c_BadRecord c_HouseError c_BadName c_BadLine c_BadLetter c_BadChange c_BadZone c_BadTurn c_BadRow k_KINDS : Addr} (T : Txt K mg c_BadRecord c_HouseError c_BadName c_BadLine c_BadLetter c_BadChange c_BadZone c_BadTurn c_BadRow k_KINDS)  
    {f : Addr} {cdv : Value} {A : Around} {outer : List Env} {s : Shared} {H : Hp} {E : XK} {B : Bs} {EP : Value → Sto → Prop} (hr : Room 0 (A.deeper (envOfC "_law_text" (defScope st_text) s.heap.objs.size f cdv)))
    (dx : DX (cxOf (L2.CX P wd) P wd K mg base N_text "_law_text" (defScope st_text) f cdv A outer s H E) B (fun cls d _ H => E cls d H) (fun c _ S => EP c S)) :
    PSsD (cxOf (L2.CX P wd) P wd K mg base N_text "_law_text" (defScope st_text) f cdv A outer s H E) B (defBody st_text) (t_text K c_BadRecord c_HouseError c_BadName c_BadLine c_BadLetter c_BadChange c_BadZone c_BadTurn c_BadRow k_KINDS fun c _ S => EP c S) := by
  have hu : (cxOf (L2.CX P wd) P wd K mg base N_text "_law_text" (defScope st_text) f cdv A outer s H E).A.units + 100 < cLine := by
    have := hr.un
    show (A.deeper _).units + 100 < cLine
    omega
  have hu1 : (cxOf (L2.CX P wd) P wd K mg base N_text "_law_text" (defScope st_text) f cdv A outer s H E).A.units + 1 < cLine := by omega
  have nd := sc_text.nd
  have hp : PassesOwn (model P wd) (cxOf (L2.CX P wd) P wd K mg base N_text "_law_text" (defScope st_text) f cdv A outer s H E).A (cxOf (L2.CX P wd) P wd K mg base N_text "_law_text" (defScope st_text) f cdv A outer s H E).env (cxOf (L2.CX P wd) P wd K mg base N_text "_law_text" (defScope st_text) f cdv A outer s H E).xe := passes_of rfl
  exact pss_dcons (ps_dset 2 nd (pd_str) rfl (Or.inr rfl))
      (pss_dcons (ps_dset 3 nd (pd_callB o_len (by rfl) T.m_len bb_len (pb_cons (pb_of (pd_var 2)) (pb_nil))) rfl (Or.inr rfl))
      (pss_done (ps_dret (pd_join (pb_of (pd_str)) (pb_of (pd_fz (pf_lc (own := [(("_law_k" : Str), 4)]) rfl nd (pi_drange1 (by rfl) T.m_range (pa_dcons (pd_var 1) (pa_dnil))) (blkOk_by (N := N_text) (sc := defScope st_text) (by decide +kernel)) (fun _ _ _ _ _ => pg_name (i := 4) nd rfl (Or.inl rfl)) (gc_of (gc_name 4 (by decide))) (fun _ _ _ _ _ => pts_dnil) (fun _ _ _ _ _ => pd_ix (pb_of (pd_var 2)) (pb_of (pd_op o_mod (pb_of (pd_op o_add (pb_of (pd_op o_add (pb_of (pd_op o_fdiv (pb_of (pd_var 0)) (pb_of (pd_int)))) (pb_of (pd_op o_mul (pb_of (pd_op o_mul (pb_of (pd_int)) (pb_of (pd_var 4)))) (pb_of (pd_var 4)))))) (pb_of (pd_op o_mul (pb_of (pd_int)) (pb_of (pd_var 4)))))) (pb_of (pd_var 3))))))))))))
theorem w_kinds {P : Program} {wd : World} {K : PySem.W.Frag} {mg : Str → Option Value} {base : Heap} {c_BadRecord c_HouseError c_BadName c_BadLine c_BadLetter c_BadChange c_BadZone c_BadTurn c_BadRow k_KINDS : Addr} (T : Txt K mg c_BadRecord c_HouseError c_BadName c_BadLine c_BadLetter c_BadChange c_BadZone c_BadTurn c_BadRow k_KINDS)  
    {f : Addr} {cdv : Value} {A : Around} {outer : List Env} {s : Shared} {H : Hp} {E : XK} {B : Bs} {EP : Value → Sto → Prop} (hr : Room 0 (A.deeper (envOfC "_law_kinds" (defScope st_kinds) s.heap.objs.size f cdv)))
    (dx : DX (cxOf (L2.CX P wd) P wd K mg base N_kinds "_law_kinds" (defScope st_kinds) f cdv A outer s H E) B (fun cls d _ H => E cls d H) (fun c _ S => EP c S)) :
    PSsD (cxOf (L2.CX P wd) P wd K mg base N_kinds "_law_kinds" (defScope st_kinds) f cdv A outer s H E) B (defBody st_kinds) (t_kinds K c_BadRecord c_HouseError c_BadName c_BadLine c_BadLetter c_BadChange c_BadZone c_BadTurn c_BadRow k_KINDS fun c _ S => EP c S) := by
  have hu : (cxOf (L2.CX P wd) P wd K mg base N_kinds "_law_kinds" (defScope st_kinds) f cdv A outer s H E).A.units + 100 < cLine := by
    have := hr.un
    show (A.deeper _).units + 100 < cLine
    omega
  have hu1 : (cxOf (L2.CX P wd) P wd K mg base N_kinds "_law_kinds" (defScope st_kinds) f cdv A outer s H E).A.units + 1 < cLine := by omega
  have nd := sc_kinds.nd
  have hp : PassesOwn (model P wd) (cxOf (L2.CX P wd) P wd K mg base N_kinds "_law_kinds" (defScope st_kinds) f cdv A outer s H E).A (cxOf (L2.CX P wd) P wd K mg base N_kinds "_law_kinds" (defScope st_kinds) f cdv A outer s H E).env (cxOf (L2.CX P wd) P wd K mg base N_kinds "_law_kinds" (defScope st_kinds) f cdv A outer s H E).xe := passes_of rfl
  exact pss_done (ps_dret (pd_tup (pa_dcons (pd_str) (pa_dcons (pd_str) (pa_dcons (pd_str) (pa_dcons (pd_str) (pa_dcons (pd_str) (pa_dcons (pd_str) (pa_dcons (pd_str) (pa_dcons (pd_str) (pa_dcons (pd_str) (pa_dnil))))))))))))
theorem w_data {P : Program} {wd : World} {K : PySem.W.Frag} {mg : Str → Option Value} {base : Heap} {c_BadRecord c_HouseError c_BadName c_BadLine c_BadLetter c_BadChange c_BadZone c_BadTurn c_BadRow k_KINDS : Addr} (T : Txt K mg c_BadRecord c_HouseError c_BadName c_BadLine c_BadLetter c_BadChange c_BadZone c_BadTurn c_BadRow k_KINDS)  (h_next : Has P wd K mg base 2 "_law_next" ps_next g_next) (h_great : Has P wd K mg base 3 "_law_great" ps_great g_great) (h_text : Has P wd K mg base 1 "_law_text" ps_text g_text) (h_plain : Has P wd K mg base 4 "_law_plain" ps_plain g_plain) (h_kinds : Has P wd K mg base 1 "_law_kinds" ps_kinds g_kinds) (h_name : Has P wd K mg base 3 "_law_name" ps_name g_name)
    {f : Addr} {cdv : Value} {A : Around} {outer : List Env} {s : Shared} {H : Hp} {E : XK} {B : Bs} {EP : Value → Sto → Prop} (hr : Room 4 (A.deeper (envOfC "_law_data" (defScope st_data) s.heap.objs.size f cdv)))
    (dx : DX (cxOf (L2.CX P wd) P wd K mg base N_data "_law_data" (defScope st_data) f cdv A outer s H E) B (fun cls d _ H => E cls d H) (fun c _ S => EP c S)) :
    PSsD (cxOf (L2.CX P wd) P wd K mg base N_data "_law_data" (defScope st_data) f cdv A outer s H E) B (defBody st_data) (t_data K c_BadRecord c_HouseError c_BadName c_BadLine c_BadLetter c_BadChange c_BadZone c_BadTurn c_BadRow k_KINDS fun c _ S => EP c S) := by
  have hu : (cxOf (L2.CX P wd) P wd K mg base N_data "_law_data" (defScope st_data) f cdv A outer s H E).A.units + 100 < cLine := by
    have := hr.un
    show (A.deeper _).units + 100 < cLine
    omega
  have hu1 : (cxOf (L2.CX P wd) P wd K mg base N_data "_law_data" (defScope st_data) f cdv A outer s H E).A.units + 1 < cLine := by omega
  have nd := sc_data.nd
  have hp : PassesOwn (model P wd) (cxOf (L2.CX P wd) P wd K mg base N_data "_law_data" (defScope st_data) f cdv A outer s H E).A (cxOf (L2.CX P wd) P wd K mg base N_data "_law_data" (defScope st_data) f cdv A outer s H E).env (cxOf (L2.CX P wd) P wd K mg base N_data "_law_data" (defScope st_data) f cdv A outer s H E).xe := passes_of rfl
  exact pss_dcons (ps_dset 3 nd (pd_fn dx h_next (hr.mono (by decide)) (pa_dcons (pd_var 0) (pa_dnil))) rfl (Or.inl rfl))
      (pss_dcons (ps_dif (pt_dcmp (o_eq hu) (pb_of (pd_var 1)) (pb_of (pd_str)))
      (pss_done (ps_dret (pd_fn dx h_great (hr.mono (by decide)) (pa_dcons (pd_var 0) (pa_dcons (pd_op o_sub (pb_of (pd_op o_pow (pb_of (pd_int)) (pb_of (pd_int)))) (pb_of (pd_int))) (pa_dnil))))))
      (pss_dnil))
      (pss_dcons (ps_dif (pt_dcmp (o_eq hu) (pb_of (pd_var 1)) (pb_of (pd_str)))
      (pss_done (ps_dret (pd_fn dx h_text (hr.mono (by decide)) (pa_dcons (pd_var 3) (pa_dcons (pd_ix (pb_of (pd_fz (pf_lst (pa_dcons (pd_int) (pa_dcons (pd_int) (pa_dcons (pd_op o_mod (pb_of (pd_op o_fdiv (pb_of (pd_var 3)) (pb_of (pd_int)))) (pb_of (pd_int))) (pa_dnil))))))) (pb_of (pd_op o_mod (pb_of (pd_var 3)) (pb_of (pd_int))))) (pa_dnil))))))
      (pss_dnil))
      (pss_dcons (ps_dif ((pw_dor (pt_dcmp (o_eq hu) (pb_of (pd_var 1)) (pb_of (pd_str))) (pw_dor1 (pt_dcmp (o_eq hu) (pb_of (pd_var 1)) (pb_of (pd_str))))).pt)
      (pss_done (ps_dret (pd_fn dx h_plain (hr.mono (by decide)) (pa_dcons (pd_var 0) (pa_dcons (pd_var 2) (pa_dnil))))))
      (pss_dnil))
      (pss_dcons (ps_dif (pt_dcmp (o_eq hu) (pb_of (pd_var 1)) (pb_of (pd_str)))
      (pss_done (ps_dret (pd_tup (pa_dcons (pd_fn dx h_great (hr.mono (by decide)) (pa_dcons (pd_var 0) (pa_dcons (pd_op o_sub (pb_of (pd_op o_pow (pb_of (pd_int)) (pb_of (pd_int)))) (pb_of (pd_int))) (pa_dnil)))) (pa_dcons (pd_fn dx h_great (hr.mono (by decide)) (pa_dcons (pd_var 0) (pa_dcons (pd_op o_pow (pb_of (pd_int)) (pb_of (pd_int))) (pa_dnil)))) (pa_dnil))))))
      (pss_dnil))
      (pss_dcons (ps_dif (pt_dcmp (o_eq hu) (pb_of (pd_var 1)) (pb_of (pd_str)))
      (pss_dcons (ps_dset 4 nd (pd_ix (pb_of (pd_fz (pf_lc (own := [(("_law_one" : Str), 6)]) rfl nd (pi_dtup (pd_fn0 h_kinds (hr.mono (by decide)))) (blkOk_by (N := N_data) (sc := defScope st_data) (by decide +kernel)) (fun _ _ _ _ _ => pg_name (i := 6) nd rfl (Or.inl rfl)) (gc_of (gc_name 6 (by decide))) (fun _ _ _ _ _ => pts_done (pt_dcmp (o_ne (by exact hu)) (pb_of (pd_var 6)) (pb_of (pd_str)))) (fun _ _ _ _ _ => pd_var 6)))) (pb_of (pd_op o_mod (pb_of (pd_var 3)) (pb_of (pd_int))))) rfl (Or.inl rfl))
      (pss_done (ps_dret (pd_tup (pa_dcons (pd_var 4) (pa_dcons (pd_op o_add (pb_of (pd_int)) (pb_of (pd_fn dx h_great (hr.mono (by decide)) (pa_dcons (pd_var 0) (pa_dcons (pd_op o_sub (pb_of (pd_op o_pow (pb_of (pd_int)) (pb_of (pd_int)))) (pb_of (pd_int))) (pa_dnil)))))) (pa_dcons (pd_fn dx h_great (hr.mono (by decide)) (pa_dcons (pd_var 0) (pa_dcons (pd_int) (pa_dnil)))) (pa_dnil))))))))
      (pss_dnil))
      (pss_dcons (ps_dif (pt_dcmp (o_eq hu) (pb_of (pd_var 1)) (pb_of (pd_str)))
      (pss_dcons (ps_dsetLcZ (ps_setLc (own := [(("_law_one" : Str), 6)]) (i := 5) rfl nd rfl rfl (sw_true rfl rfl rfl (by decide +kernel)) (pi_dtup (pd_fn0 h_kinds (hr.mono (by decide)))) (blkOk_by (N := N_data) (sc := defScope st_data) (by decide +kernel)) (fun _ _ _ _ _ => pg_name (i := 6) nd rfl (Or.inl rfl))  (fun _ _ _ _ _ => pts_done (pt_dcmp (o_eq (by exact hu)) (pb_of (pd_op o_mod (pb_of (pd_fn dx0 h_next (hr.mono (by decide)) (pa_dcons (pd_var 0) (pa_dnil)))) (pb_of (pd_int)))) (pb_of (pd_int)))) (fun _ _ _ _ _ => pd_var 6)) (pf_comp (gc_of (gc_name 6 (by decide)))))
      (pss_done (ps_dret (pd_tup (pa_dcons (pd_fn dx h_name (hr.mono (by decide)) (pa_dcons (pd_var 0) (pa_dcons (pd_var 2) (pa_dnil)))) (pa_dcons (pd_callTy o_tuple (by rfl) T.m_tuple bb_tuple (pb_cons (pb_of (pd_fz (pf_callB o_sortS (by rfl) T.m_sorted bb_sorted (pb_cons (pb_of (pd_var 5)) (pb_nil))))) (pb_nil))) (pa_dnil)))))))
      (pss_dnil))
      (pss_done (ps_dret (pd_op o_add (pb_of (pd_int)) (pb_of (pd_fn dx h_great (hr.mono (by decide)) (pa_dcons (pd_var 0) (pa_dcons (pd_op o_sub (pb_of (pd_op o_pow (pb_of (pd_int)) (pb_of (pd_int)))) (pb_of (pd_int))) (pa_dnil))))))))))))))
theorem w_record {P : Program} {wd : World} {K : PySem.W.Frag} {mg : Str → Option Value} {base : Heap} {c_BadRecord c_HouseError c_BadName c_BadLine c_BadLetter c_BadChange c_BadZone c_BadTurn c_BadRow k_KINDS : Addr} (T : Txt K mg c_BadRecord c_HouseError c_BadName c_BadLine c_BadLetter c_BadChange c_BadZone c_BadTurn c_BadRow k_KINDS)  (h_kinds : Has P wd K mg base 1 "_law_kinds" ps_kinds g_kinds) (h_next : Has P wd K mg base 2 "_law_next" ps_next g_next) (h_data : Has P wd K mg base 5 "_law_data" ps_data g_data) (h_great : Has P wd K mg base 3 "_law_great" ps_great g_great) (h_name : Has P wd K mg base 3 "_law_name" ps_name g_name)
    {f : Addr} {cdv : Value} {A : Around} {outer : List Env} {s : Shared} {H : Hp} {E : XK} {B : Bs} {EP : Value → Sto → Prop} (hr : Room 5 (A.deeper (envOfC "_law_record" (defScope st_record) s.heap.objs.size f cdv)))
    (dx : DX (cxOf (L2.CX P wd) P wd K mg base N_record "_law_record" (defScope st_record) f cdv A outer s H E) B (fun cls d _ H => E cls d H) (fun c _ S => EP c S)) :
    PSsD (cxOf (L2.CX P wd) P wd K mg base N_record "_law_record" (defScope st_record) f cdv A outer s H E) B (defBody st_record) (t_record K c_BadRecord c_HouseError c_BadName c_BadLine c_BadLetter c_BadChange c_BadZone c_BadTurn c_BadRow k_KINDS fun c _ S => EP c S) := by
  have hu : (cxOf (L2.CX P wd) P wd K mg base N_record "_law_record" (defScope st_record) f cdv A outer s H E).A.units + 100 < cLine := by
    have := hr.un
    show (A.deeper _).units + 100 < cLine
    omega
  have hu1 : (cxOf (L2.CX P wd) P wd K mg base N_record "_law_record" (defScope st_record) f cdv A outer s H E).A.units + 1 < cLine := by omega
  have nd := sc_record.nd
  have hp : PassesOwn (model P wd) (cxOf (L2.CX P wd) P wd K mg base N_record "_law_record" (defScope st_record) f cdv A outer s H E).A (cxOf (L2.CX P wd) P wd K mg base N_record "_law_record" (defScope st_record) f cdv A outer s H E).env (cxOf (L2.CX P wd) P wd K mg base N_record "_law_record" (defScope st_record) f cdv A outer s H E).xe := passes_of rfl
  exact pss_dcons (ps_dset 2 nd (pd_ix (pb_of (pd_fn0 h_kinds (hr.mono (by decide)))) (pb_of (pd_op o_mod (pb_of (pd_fn dx h_next (hr.mono (by decide)) (pa_dcons (pd_var 0) (pa_dnil)))) (pb_of (pd_int))))) rfl (Or.inl rfl))
      (pss_done (ps_dret (pd_tup (pa_dcons (pd_fn dx h_name (hr.mono (by decide)) (pa_dcons (pd_var 0) (pa_dcons (pd_var 1) (pa_dnil)))) (pa_dcons (pd_var 2) (pa_dcons (pd_fn dx h_great (hr.mono (by decide)) (pa_dcons (pd_var 0) (pa_dcons (pd_op o_pow (pb_of (pd_int)) (pb_of (pd_int))) (pa_dnil)))) (pa_dcons (pd_fn dx h_data (hr.mono (by decide)) (pa_dcons (pd_var 0) (pa_dcons (pd_var 2) (pa_dcons (pd_var 1) (pa_dnil))))) (pa_dnil))))))))
theorem w_before {P : Program} {wd : World} {K : PySem.W.Frag} {mg : Str → Option Value} {base : Heap} {c_BadRecord c_HouseError c_BadName c_BadLine c_BadLetter c_BadChange c_BadZone c_BadTurn c_BadRow k_KINDS : Addr} (T : Txt K mg c_BadRecord c_HouseError c_BadName c_BadLine c_BadLetter c_BadChange c_BadZone c_BadTurn c_BadRow k_KINDS)  
    {f : Addr} {cdv : Value} {A : Around} {outer : List Env} {s : Shared} {H : Hp} {E : XK} {B : Bs} {EP : Value → Sto → Prop} (hr : Room 0 (A.deeper (envOfC "_law_before" (defScope st_before) s.heap.objs.size f cdv)))
    (dx : DX (cxOf (L2.CX P wd) P wd K mg base N_before "_law_before" (defScope st_before) f cdv A outer s H E) B (fun cls d _ H => E cls d H) (fun c _ S => EP c S)) :
    PSsD (cxOf (L2.CX P wd) P wd K mg base N_before "_law_before" (defScope st_before) f cdv A outer s H E) B (defBody st_before) (t_before K c_BadRecord c_HouseError c_BadName c_BadLine c_BadLetter c_BadChange c_BadZone c_BadTurn c_BadRow k_KINDS fun c _ S => EP c S) := by
  have hu : (cxOf (L2.CX P wd) P wd K mg base N_before "_law_before" (defScope st_before) f cdv A outer s H E).A.units + 100 < cLine := by
    have := hr.un
    show (A.deeper _).units + 100 < cLine
    omega
  have hu1 : (cxOf (L2.CX P wd) P wd K mg base N_before "_law_before" (defScope st_before) f cdv A outer s H E).A.units + 1 < cLine := by omega
  have nd := sc_before.nd
  have hp : PassesOwn (model P wd) (cxOf (L2.CX P wd) P wd K mg base N_before "_law_before" (defScope st_before) f cdv A outer s H E).A (cxOf (L2.CX P wd) P wd K mg base N_before "_law_before" (defScope st_before) f cdv A outer s H E).env (cxOf (L2.CX P wd) P wd K mg base N_before "_law_before" (defScope st_before) f cdv A outer s H E).xe := passes_of rfl
  exact pss_dcons (ps_dset 2 nd (pd_int) rfl (Or.inl rfl))
      (pss_dcons (ps_dwhile hp ((pw_dand (pt_dcmp (o_le) (pb_of (pd_var 2)) (pb_of (pd_callB o_len (by rfl) T.m_len bb_len (pb_cons (pb_of (pd_var 0)) (pb_nil))))) (pw_dand1 (pt_dcmp (o_le) (pb_of (pd_var 2)) (pb_of (pd_callB o_len (by rfl) T.m_len bb_len (pb_cons (pb_of (pd_var 1)) (pb_nil))))))).pt) (pss_dcons (ps_dif (pt_dcmp (o_ne hu) (pb_of (pd_ix (pb_of (pd_var 0)) (pb_of (pd_neg (pd_var 2))))) (pb_of (pd_ix (pb_of (pd_var 1)) (pb_of (pd_neg (pd_var 2))))))
      (pss_done (ps_dret (pd_cmp (o_ltS) (pb_of (pd_ix (pb_of (pd_var 0)) (pb_of (pd_neg (pd_var 2))))) (pb_of (pd_ix (pb_of (pd_var 1)) (pb_of (pd_neg (pd_var 2))))))))
      (pss_dnil))
      (pss_done (ps_dset 2 nd (pd_op o_add (pb_of (pd_var 2)) (pb_of (pd_int))) rfl (Or.inl rfl)))))
      (pss_done (ps_dret (pd_cmp (o_ltS) (pb_of (pd_callB o_len (by rfl) T.m_len bb_len (pb_cons (pb_of (pd_var 0)) (pb_nil)))) (pb_of (pd_callB o_len (by rfl) T.m_len bb_len (pb_cons (pb_of (pd_var 1)) (pb_nil))))))))
theorem w_among {P : Program} {wd : World} {K : PySem.W.Frag} {mg : Str → Option Value} {base : Heap} {c_BadRecord c_HouseError c_BadName c_BadLine c_BadLetter c_BadChange c_BadZone c_BadTurn c_BadRow k_KINDS : Addr} (T : Txt K mg c_BadRecord c_HouseError c_BadName c_BadLine c_BadLetter c_BadChange c_BadZone c_BadTurn c_BadRow k_KINDS)  
    {f : Addr} {cdv : Value} {A : Around} {outer : List Env} {s : Shared} {H : Hp} {E : XK} {B : Bs} {EP : Value → Sto → Prop} (hr : Room 0 (A.deeper (envOfC "_law_among" (defScope st_among) s.heap.objs.size f cdv)))
    (dx : DX (cxOf (L2.CX P wd) P wd K mg base N_among "_law_among" (defScope st_among) f cdv A outer s H E) B (fun cls d _ H => E cls d H) (fun c _ S => EP c S)) :
    PSsD (cxOf (L2.CX P wd) P wd K mg base N_among "_law_among" (defScope st_among) f cdv A outer s H E) B (defBody st_among) (t_among K c_BadRecord c_HouseError c_BadName c_BadLine c_BadLetter c_BadChange c_BadZone c_BadTurn c_BadRow k_KINDS fun c _ S => EP c S) := by
  have hu : (cxOf (L2.CX P wd) P wd K mg base N_among "_law_among" (defScope st_among) f cdv A outer s H E).A.units + 100 < cLine := by
    have := hr.un
    show (A.deeper _).units + 100 < cLine
    omega
  have hu1 : (cxOf (L2.CX P wd) P wd K mg base N_among "_law_among" (defScope st_among) f cdv A outer s H E).A.units + 1 < cLine := by omega
  have nd := sc_among.nd
  have hp : PassesOwn (model P wd) (cxOf (L2.CX P wd) P wd K mg base N_among "_law_among" (defScope st_among) f cdv A outer s H E).A (cxOf (L2.CX P wd) P wd K mg base N_among "_law_among" (defScope st_among) f cdv A outer s H E).env (cxOf (L2.CX P wd) P wd K mg base N_among "_law_among" (defScope st_among) f cdv A outer s H E).xe := passes_of rfl
  exact pss_done (ps_dret (pd_and (pd_callB o_isi (by rfl) T.m_isinstance bb_isinstance (pb_cons (pb_of (pd_var 0)) (pb_cons (pb_of (pd_ty (by rfl) T.m_int bb_int)) (pb_nil)))) (pd_and (pd_not (pd_callB o_isi (by rfl) T.m_isinstance bb_isinstance (pb_cons (pb_of (pd_var 0)) (pb_cons (pb_of (pd_ty (by rfl) T.m_bool bb_bool)) (pb_nil))))) (pd_one (pd_chain (o_leS) (o_leS) (pb_of (pd_var 1)) (pb_of (pd_var 0)) (pb_of (pd_var 2)))))))
theorem w_is_name {P : Program} {wd : World} {K : PySem.W.Frag} {mg : Str → Option Value} {base : Heap} {c_BadRecord c_HouseError c_BadName c_BadLine c_BadLetter c_BadChange c_BadZone c_BadTurn c_BadRow k_KINDS : Addr} (T : Txt K mg c_BadRecord c_HouseError c_BadName c_BadLine c_BadLetter c_BadChange c_BadZone c_BadTurn c_BadRow k_KINDS)  (h_signs : Has P wd K mg base 1 "_law_signs" ps_signs g_signs)
    {f : Addr} {cdv : Value} {A : Around} {outer : List Env} {s : Shared} {H : Hp} {E : XK} {B : Bs} {EP : Value → Sto → Prop} (hr : Room 1 (A.deeper (envOfC "_law_is_name" (defScope st_is_name) s.heap.objs.size f cdv)))
    (dx : DX (cxOf (L2.CX P wd) P wd K mg base N_is_name "_law_is_name" (defScope st_is_name) f cdv A outer s H E) B (fun cls d _ H => E cls d H) (fun c _ S => EP c S)) :
    PSsD (cxOf (L2.CX P wd) P wd K mg base N_is_name "_law_is_name" (defScope st_is_name) f cdv A outer s H E) B (defBody st_is_name) (t_is_name K c_BadRecord c_HouseError c_BadName c_BadLine c_BadLetter c_BadChange c_BadZone c_BadTurn c_BadRow k_KINDS fun c _ S => EP c S) := by
  have hu : (cxOf (L2.CX P wd) P wd K mg base N_is_name "_law_is_name" (defScope st_is_name) f cdv A outer s H E).A.units + 100 < cLine := by
    have := hr.un
    show (A.deeper _).units + 100 < cLine
    omega
  have hu1 : (cxOf (L2.CX P wd) P wd K mg base N_is_name "_law_is_name" (defScope st_is_name) f cdv A outer s H E).A.units + 1 < cLine := by omega
  have nd := sc_is_name.nd
  have hp : PassesOwn (model P wd) (cxOf (L2.CX P wd) P wd K mg base N_is_name "_law_is_name" (defScope st_is_name) f cdv A outer s H E).A (cxOf (L2.CX P wd) P wd K mg base N_is_name "_law_is_name" (defScope st_is_name) f cdv A outer s H E).env (cxOf (L2.CX P wd) P wd K mg base N_is_name "_law_is_name" (defScope st_is_name) f cdv A outer s H E).xe := passes_of rfl
  exact pss_dcons (ps_dif ((pw_dor (pt_dnot (pt_d (pd_callB o_isi (by rfl) T.m_isinstance bb_isinstance (pb_cons (pb_of (pd_var 0)) (pb_cons (pb_of (pd_ty (by rfl) T.m_tuple bb_tuple)) (pb_nil)))))) (pw_dor1 (pt_dcmp (o_gt) (pb_of (pd_callB o_len (by rfl) T.m_len bb_len (pb_cons (pb_of (pd_var 0)) (pb_nil)))) (pb_of (pd_int))))).pt)
      (pss_done (ps_dret (pd_bl)))
      (pss_dnil))
      (pss_dcons (ps_dfor hp rfl (pi_denT (by rfl) T.m_enumerate (pd_var 0)) (pg_dtup rfl (pgs_dcons (pg_dname 2 nd rfl (Or.inl rfl)) (pgs_dcons (pg_dname 3 nd rfl (Or.inl rfl)) (pgs_dnil)))) (fun B u2 => pss_dcons (ps_dif ((pw_dor (pt_dnot (pt_d (pd_callB o_isi (by rfl) T.m_isinstance bb_isinstance (pb_cons (pb_of (pd_var 3)) (pb_cons (pb_of (pd_ty (by rfl) T.m_str bb_str)) (pb_nil)))))) (pw_dor1 (pt_dnot (pt_dchain (o_le) (o_le) (pb_of (pd_int)) (pb_of (pd_callB o_len (by rfl) T.m_len bb_len (pb_cons (pb_of (pd_var 3)) (pb_nil)))) (pb_of (pd_int)))))).pt)
      (pss_done (ps_dret (pd_bl)))
      (pss_dnil))
      (pss_dcons (ps_dset 4 nd (pd_and (pd_var 1) (pd_and (pd_cmp (o_eq hu) (pb_of (pd_var 2)) (pb_of (pd_int))) (pd_one (pd_cmp (o_eq hu) (pb_of (pd_var 3)) (pb_of (pd_str)))))) rfl (Or.inl rfl))
      (pss_done (ps_dif ((pw_dand (pt_dcmp (o_ne hu) (pb_of (pd_fz (pf_lc (own := [(("_law_sign" : Str), 5)]) rfl nd (pi_dstr (pd_var 3)) (blkOk_by (N := N_is_name) (sc := defScope st_is_name) (by decide +kernel)) (fun _ _ _ _ _ => pg_name (i := 5) nd rfl (Or.inl rfl)) (gc_of (gc_name 5 (by decide))) (fun _ _ _ _ _ => pts_done (pt_dcmp (o_notIn (by exact hu)) (pb_of (pd_var 5)) (pb_of (pd_fn0 h_signs (hr.mono (by decide)))))) (fun _ _ _ _ _ => pd_var 5)))) (pb_of (pd_fz (pf_lst (pa_dnil))))) (pw_dand1 (pt_dnot (pt_d (pd_var 4))))).pt)
      (pss_done (ps_dret (pd_bl)))
      (pss_dnil))))))
      (pss_done (ps_dret (pd_bl))))
theorem w_is_kind {P : Program} {wd : World} {K : PySem.W.Frag} {mg : Str → Option Value} {base : Heap} {c_BadRecord c_HouseError c_BadName c_BadLine c_BadLetter c_BadChange c_BadZone c_BadTurn c_BadRow k_KINDS : Addr} (T : Txt K mg c_BadRecord c_HouseError c_BadName c_BadLine c_BadLetter c_BadChange c_BadZone c_BadTurn c_BadRow k_KINDS)  (h_kinds : Has P wd K mg base 1 "_law_kinds" ps_kinds g_kinds)
    {f : Addr} {cdv : Value} {A : Around} {outer : List Env} {s : Shared} {H : Hp} {E : XK} {B : Bs} {EP : Value → Sto → Prop} (hr : Room 1 (A.deeper (envOfC "_law_is_kind" (defScope st_is_kind) s.heap.objs.size f cdv)))
    (dx : DX (cxOf (L2.CX P wd) P wd K mg base N_is_kind "_law_is_kind" (defScope st_is_kind) f cdv A outer s H E) B (fun cls d _ H => E cls d H) (fun c _ S => EP c S)) :
    PSsD (cxOf (L2.CX P wd) P wd K mg base N_is_kind "_law_is_kind" (defScope st_is_kind) f cdv A outer s H E) B (defBody st_is_kind) (t_is_kind K c_BadRecord c_HouseError c_BadName c_BadLine c_BadLetter c_BadChange c_BadZone c_BadTurn c_BadRow k_KINDS fun c _ S => EP c S) := by
  have hu : (cxOf (L2.CX P wd) P wd K mg base N_is_kind "_law_is_kind" (defScope st_is_kind) f cdv A outer s H E).A.units + 100 < cLine := by
    have := hr.un
    show (A.deeper _).units + 100 < cLine
    omega
  have hu1 : (cxOf (L2.CX P wd) P wd K mg base N_is_kind "_law_is_kind" (defScope st_is_kind) f cdv A outer s H E).A.units + 1 < cLine := by omega
  have nd := sc_is_kind.nd
  have hp : PassesOwn (model P wd) (cxOf (L2.CX P wd) P wd K mg base N_is_kind "_law_is_kind" (defScope st_is_kind) f cdv A outer s H E).A (cxOf (L2.CX P wd) P wd K mg base N_is_kind "_law_is_kind" (defScope st_is_kind) f cdv A outer s H E).env (cxOf (L2.CX P wd) P wd K mg base N_is_kind "_law_is_kind" (defScope st_is_kind) f cdv A outer s H E).xe := passes_of rfl
  exact pss_done (ps_dret (pd_and (pd_callB o_isi (by rfl) T.m_isinstance bb_isinstance (pb_cons (pb_of (pd_var 0)) (pb_cons (pb_of (pd_ty (by rfl) T.m_str bb_str)) (pb_nil)))) (pd_one (pd_cmp (o_in hu) (pb_of (pd_var 0)) (pb_of (pd_fn0 h_kinds (hr.mono (by decide))))))))
theorem w_is_data {P : Program} {wd : World} {K : PySem.W.Frag} {mg : Str → Option Value} {base : Heap} {c_BadRecord c_HouseError c_BadName c_BadLine c_BadLetter c_BadChange c_BadZone c_BadTurn c_BadRow k_KINDS : Addr} (T : Txt K mg c_BadRecord c_HouseError c_BadName c_BadLine c_BadLetter c_BadChange c_BadZone c_BadTurn c_BadRow k_KINDS)  (h_among : Has P wd K mg base 1 "_law_among" ps_among g_among) (h_is_name : Has P wd K mg base 2 "_law_is_name" ps_is_name g_is_name) (h_is_kind : Has P wd K mg base 2 "_law_is_kind" ps_is_kind g_is_kind)
    {f : Addr} {cdv : Value} {A : Around} {outer : List Env} {s : Shared} {H : Hp} {E : XK} {B : Bs} {EP : Value → Sto → Prop} (hr : Room 2 (A.deeper (envOfC "_law_is_data" (defScope st_is_data) s.heap.objs.size f cdv)))
    (dx : DX (cxOf (L2.CX P wd) P wd K mg base N_is_data "_law_is_data" (defScope st_is_data) f cdv A outer s H E) B (fun cls d _ H => E cls d H) (fun c _ S => EP c S)) :
    PSsD (cxOf (L2.CX P wd) P wd K mg base N_is_data "_law_is_data" (defScope st_is_data) f cdv A outer s H E) B (defBody st_is_data) (t_is_data K c_BadRecord c_HouseError c_BadName c_BadLine c_BadLetter c_BadChange c_BadZone c_BadTurn c_BadRow k_KINDS fun c _ S => EP c S) := by
  have hu : (cxOf (L2.CX P wd) P wd K mg base N_is_data "_law_is_data" (defScope st_is_data) f cdv A outer s H E).A.units + 100 < cLine := by
    have := hr.un
    show (A.deeper _).units + 100 < cLine
    omega
  have hu1 : (cxOf (L2.CX P wd) P wd K mg base N_is_data "_law_is_data" (defScope st_is_data) f cdv A outer s H E).A.units + 1 < cLine := by omega
  have nd := sc_is_data.nd
  have hp : PassesOwn (model P wd) (cxOf (L2.CX P wd) P wd K mg base N_is_data "_law_is_data" (defScope st_is_data) f cdv A outer s H E).A (cxOf (L2.CX P wd) P wd K mg base N_is_data "_law_is_data" (defScope st_is_data) f cdv A outer s H E).env (cxOf (L2.CX P wd) P wd K mg base N_is_data "_law_is_data" (defScope st_is_data) f cdv A outer s H E).xe := passes_of rfl
  exact pss_dcons (ps_dif (pt_dcmp (o_eq hu) (pb_of (pd_var 0)) (pb_of (pd_str)))
      (pss_done (ps_dret (pd_fn dx h_among (hr.mono (by decide)) (pa_dcons (pd_var 1) (pa_dcons (pd_int) (pa_dcons (pd_op o_sub (pb_of (pd_op o_pow (pb_of (pd_int)) (pb_of (pd_int)))) (pb_of (pd_int))) (pa_dnil)))))))
      (pss_dnil))
      (pss_dcons (ps_dif (pt_dcmp (o_eq hu) (pb_of (pd_var 0)) (pb_of (pd_str)))
      (pss_done (ps_dret (pd_and (pd_callB o_isi (by rfl) T.m_isinstance bb_isinstance (pb_cons (pb_of (pd_var 1)) (pb_cons (pb_of (pd_ty (by rfl) T.m_str bb_str)) (pb_nil)))) (pd_one (pd_cmp (o_le) (pb_of (pd_callB o_len (by rfl) T.m_len bb_len (pb_cons (pb_of (pd_var 1)) (pb_nil)))) (pb_of (pd_int)))))))
      (pss_dnil))
      (pss_dcons (ps_dif ((pw_dor (pt_dcmp (o_eq hu) (pb_of (pd_var 0)) (pb_of (pd_str))) (pw_dor1 (pt_dcmp (o_eq hu) (pb_of (pd_var 0)) (pb_of (pd_str))))).pt)
      (pss_done (ps_dret (pd_fn dx h_is_name (hr.mono (by decide)) (pa_dcons (pd_var 1) (pa_dcons (pd_bl) (pa_dnil))))))
      (pss_dnil))
      (pss_dcons (ps_dif ((pw_dor (pt_dcmp (o_eq hu) (pb_of (pd_var 0)) (pb_of (pd_str))) (pw_dor1 (pt_dcmp (o_eq hu) (pb_of (pd_var 0)) (pb_of (pd_str))))).pt)
      (pss_done (ps_dret (pd_fn dx h_among (hr.mono (by decide)) (pa_dcons (pd_var 1) (pa_dcons (pd_int) (pa_dcons (pd_op o_pow (pb_of (pd_int)) (pb_of (pd_int))) (pa_dnil)))))))
      (pss_dnil))
      (pss_dcons (ps_dif ((pw_dor (pt_dnot (pt_d (pd_callB o_isi (by rfl) T.m_isinstance bb_isinstance (pb_cons (pb_of (pd_var 1)) (pb_cons (pb_of (pd_ty (by rfl) T.m_tuple bb_tuple)) (pb_nil)))))) (pw_dor1 (pt_dcmp (o_ne hu) (pb_of (pd_callB o_len (by rfl) T.m_len bb_len (pb_cons (pb_of (pd_var 1)) (pb_nil)))) (pb_of (pd_dctix (nm := [("top" : Str), ("seal" : Str), ("gap" : Str)]) hu1 (by decide +kernel) (pd_disp (pps_dcons (pd_int) (pps_dcons (pd_int) (pps_dcons (pd_int) (pps_dnil)))) (by decide +kernel) (by decide)) (pd_var 0)))))).pt)
      (pss_done (ps_dret (pd_bl)))
      (pss_dnil))
      (pss_dcons (ps_dif (pt_dcmp (o_eq hu) (pb_of (pd_var 0)) (pb_of (pd_str)))
      (pss_done (ps_dret (pd_and (pd_fn dx h_among (hr.mono (by decide)) (pa_dcons (pd_ix (pb_of (pd_var 1)) (pb_of (pd_int))) (pa_dcons (pd_int) (pa_dcons (pd_op o_sub (pb_of (pd_op o_pow (pb_of (pd_int)) (pb_of (pd_int)))) (pb_of (pd_int))) (pa_dnil))))) (pd_one (pd_fn dx h_among (hr.mono (by decide)) (pa_dcons (pd_ix (pb_of (pd_var 1)) (pb_of (pd_int))) (pa_dcons (pd_int) (pa_dcons (pd_op o_pow (pb_of (pd_int)) (pb_of (pd_int))) (pa_dnil)))))))))
      (pss_dnil))
      (pss_dcons (ps_dif (pt_dcmp (o_eq hu) (pb_of (pd_var 0)) (pb_of (pd_str)))
      (pss_dcons (ps_dset 2 nd (pd_and (pd_fn dx h_is_kind (hr.mono (by decide)) (pa_dcons (pd_ix (pb_of (pd_var 1)) (pb_of (pd_int))) (pa_dnil))) (pd_and (pd_cmp (o_ne hu) (pb_of (pd_ix (pb_of (pd_var 1)) (pb_of (pd_int)))) (pb_of (pd_str))) (pd_one (pd_fn dx h_among (hr.mono (by decide)) (pa_dcons (pd_ix (pb_of (pd_var 1)) (pb_of (pd_int))) (pa_dcons (pd_int) (pa_dcons (pd_op o_pow (pb_of (pd_int)) (pb_of (pd_int))) (pa_dnil)))))))) rfl (Or.inl rfl))
      (pss_done (ps_dret (pd_and (pd_var 2) (pd_one (pd_fn dx h_among (hr.mono (by decide)) (pa_dcons (pd_ix (pb_of (pd_var 1)) (pb_of (pd_int))) (pa_dcons (pd_int) (pa_dcons (pd_int) (pa_dnil))))))))))
      (pss_dnil))
      (pss_dcons (ps_dif ((pw_dor (pt_dnot (pt_d (pd_fn dx h_is_name (hr.mono (by decide)) (pa_dcons (pd_ix (pb_of (pd_var 1)) (pb_of (pd_int))) (pa_dcons (pd_bl) (pa_dnil)))))) (pw_dor1 (pt_dnot (pt_d (pd_callB o_isi (by rfl) T.m_isinstance bb_isinstance (pb_cons (pb_of (pd_ix (pb_of (pd_var 1)) (pb_of (pd_int)))) (pb_cons (pb_of (pd_ty (by rfl) T.m_tuple bb_tuple)) (pb_nil)))))))).pt)
      (pss_done (ps_dret (pd_bl)))
      (pss_dnil))
      (pss_done (ps_dret (pd_and (pd_callB (o_all rfl) (by rfl) T.m_all bb_all (pb_cons (pb_of (pd_fz (pf_lc (own := [(("_law_one" : Str), 3)]) rfl nd (pi_dtup (pd_ix (pb_of (pd_var 1)) (pb_of (pd_int)))) (blkOk_by (N := N_is_data) (sc := defScope st_is_data) (by decide +kernel)) (fun _ _ _ _ _ => pg_name (i := 3) nd rfl (Or.inl rfl)) (gc_of (gc_name 3 (by decide))) (fun _ _ _ _ _ => pts_dnil) (fun _ _ _ _ _ => pd_fn dx0 h_is_kind (hr.mono (by decide)) (pa_dcons (pd_var 3) (pa_dnil)))))) (pb_nil))) (pd_one (pd_cmp (o_eq hu) (pb_of (pd_fz (pf_callTy o_list (by rfl) T.m_list bb_list (pb_cons (pb_of (pd_ix (pb_of (pd_var 1)) (pb_of (pd_int)))) (pb_nil))))) (pb_of (pd_fz (pf_sortSet rfl (by rfl) T.m_sorted (by rfl) T.m_set (pd_ix (pb_of (pd_var 1)) (pb_of (pd_int))))))))))))))))))
theorem w_is_record {P : Program} {wd : World} {K : PySem.W.Frag} {mg : Str → Option Value} {base : Heap} {c_BadRecord c_HouseError c_BadName c_BadLine c_BadLetter c_BadChange c_BadZone c_BadTurn c_BadRow k_KINDS : Addr} (T : Txt K mg c_BadRecord c_HouseError c_BadName c_BadLine c_BadLetter c_BadChange c_BadZone c_BadTurn c_BadRow k_KINDS)  (h_is_name : Has P wd K mg base 2 "_law_is_name" ps_is_name g_is_name) (h_is_kind : Has P wd K mg base 2 "_law_is_kind" ps_is_kind g_is_kind) (h_among : Has P wd K mg base 1 "_law_among" ps_among g_among) (h_is_data : Has P wd K mg base 3 "_law_is_data" ps_is_data g_is_data)
    {f : Addr} {cdv : Value} {A : Around} {outer : List Env} {s : Shared} {H : Hp} {E : XK} {B : Bs} {EP : Value → Sto → Prop} (hr : Room 3 (A.deeper (envOfC "_law_is_record" (defScope st_is_record) s.heap.objs.size f cdv)))
    (dx : DX (cxOf (L2.CX P wd) P wd K mg base N_is_record "_law_is_record" (defScope st_is_record) f cdv A outer s H E) B (fun cls d _ H => E cls d H) (fun c _ S => EP c S)) :
    PSsD (cxOf (L2.CX P wd) P wd K mg base N_is_record "_law_is_record" (defScope st_is_record) f cdv A outer s H E) B (defBody st_is_record) (t_is_record K c_BadRecord c_HouseError c_BadName c_BadLine c_BadLetter c_BadChange c_BadZone c_BadTurn c_BadRow k_KINDS fun c _ S => EP c S) := by
  have hu : (cxOf (L2.CX P wd) P wd K mg base N_is_record "_law_is_record" (defScope st_is_record) f cdv A outer s H E).A.units + 100 < cLine := by
    have := hr.un
    show (A.deeper _).units + 100 < cLine
    omega
  have hu1 : (cxOf (L2.CX P wd) P wd K mg base N_is_record "_law_is_record" (defScope st_is_record) f cdv A outer s H E).A.units + 1 < cLine := by omega
  have nd := sc_is_record.nd
  have hp : PassesOwn (model P wd) (cxOf (L2.CX P wd) P wd K mg base N_is_record "_law_is_record" (defScope st_is_record) f cdv A outer s H E).A (cxOf (L2.CX P wd) P wd K mg base N_is_record "_law_is_record" (defScope st_is_record) f cdv A outer s H E).env (cxOf (L2.CX P wd) P wd K mg base N_is_record "_law_is_record" (defScope st_is_record) f cdv A outer s H E).xe := passes_of rfl
  exact pss_dcons (ps_dif ((pw_dor (pt_dnot (pt_d (pd_callB o_isi (by rfl) T.m_isinstance bb_isinstance (pb_cons (pb_of (pd_var 0)) (pb_cons (pb_of (pd_ty (by rfl) T.m_tuple bb_tuple)) (pb_nil)))))) (pw_dor (pt_dcmp (o_ne hu) (pb_of (pd_callB o_len (by rfl) T.m_len bb_len (pb_cons (pb_of (pd_var 0)) (pb_nil)))) (pb_of (pd_int))) (pw_dor1 (pt_dnot (pt_d (pd_fn dx h_is_name (hr.mono (by decide)) (pa_dcons (pd_ix (pb_of (pd_var 0)) (pb_of (pd_int))) (pa_dcons (pd_bl) (pa_dnil))))))))).pt)
      (pss_done (ps_dret (pd_bl)))
      (pss_dnil))
      (pss_done (ps_dret (pd_and (pd_fn dx h_is_kind (hr.mono (by decide)) (pa_dcons (pd_ix (pb_of (pd_var 0)) (pb_of (pd_int))) (pa_dnil))) (pd_and (pd_fn dx h_among (hr.mono (by decide)) (pa_dcons (pd_ix (pb_of (pd_var 0)) (pb_of (pd_int))) (pa_dcons (pd_int) (pa_dcons (pd_op o_pow (pb_of (pd_int)) (pb_of (pd_int))) (pa_dnil))))) (pd_one (pd_fn dx h_is_data (hr.mono (by decide)) (pa_dcons (pd_ix (pb_of (pd_var 0)) (pb_of (pd_int))) (pa_dcons (pd_ix (pb_of (pd_var 0)) (pb_of (pd_int))) (pa_dnil)))))))))
theorem w_odd {P : Program} {wd : World} {K : PySem.W.Frag} {mg : Str → Option Value} {base : Heap} {c_BadRecord c_HouseError c_BadName c_BadLine c_BadLetter c_BadChange c_BadZone c_BadTurn c_BadRow k_KINDS : Addr} (T : Txt K mg c_BadRecord c_HouseError c_BadName c_BadLine c_BadLetter c_BadChange c_BadZone c_BadTurn c_BadRow k_KINDS)  (h_among : Has P wd K mg base 1 "_law_among" ps_among g_among)
    {f : Addr} {cdv : Value} {A : Around} {outer : List Env} {s : Shared} {H : Hp} {E : XK} {B : Bs} {EP : Value → Sto → Prop} (hr : Room 1 (A.deeper (envOfC "_law_odd" (defScope st_odd) s.heap.objs.size f cdv)))
    (dx : DX (cxOf (L2.CX P wd) P wd K mg base N_odd "_law_odd" (defScope st_odd) f cdv A outer s H E) B (fun cls d _ H => E cls d H) (fun c _ S => EP c S)) :
    PSsD (cxOf (L2.CX P wd) P wd K mg base N_odd "_law_odd" (defScope st_odd) f cdv A outer s H E) B (defBody st_odd) (t_odd K c_BadRecord c_HouseError c_BadName c_BadLine c_BadLetter c_BadChange c_BadZone c_BadTurn c_BadRow k_KINDS fun c _ S => EP c S) := by
  have hu : (cxOf (L2.CX P wd) P wd K mg base N_odd "_law_odd" (defScope st_odd) f cdv A outer s H E).A.units + 100 < cLine := by
    have := hr.un
    show (A.deeper _).units + 100 < cLine
    omega
  have hu1 : (cxOf (L2.CX P wd) P wd K mg base N_odd "_law_odd" (defScope st_odd) f cdv A outer s H E).A.units + 1 < cLine := by omega
  have nd := sc_odd.nd
  have hp : PassesOwn (model P wd) (cxOf (L2.CX P wd) P wd K mg base N_odd "_law_odd" (defScope st_odd) f cdv A outer s H E).A (cxOf (L2.CX P wd) P wd K mg base N_odd "_law_odd" (defScope st_odd) f cdv A outer s H E).env (cxOf (L2.CX P wd) P wd K mg base N_odd "_law_odd" (defScope st_odd) f cdv A outer s H E).xe := passes_of rfl
  exact pss_dcons (ps_dset 2 nd (pd_fz (pf_lst (pa_dcons (pd_non) (pa_dcons (pd_bl) (pa_dcons (pd_neg (pd_int)) (pa_dcons (pd_str) (pa_dcons (pd_op o_add (pb_of (pd_op o_pow (pb_of (pd_int)) (pb_of (pd_int)))) (pb_of (pd_int))) (pa_dcons (pd_op o_pow (pb_of (pd_int)) (pb_of (pd_int))) (pa_dcons (pd_op o_add (pb_of (pd_op o_pow (pb_of (pd_int)) (pb_of (pd_int)))) (pb_of (pd_int))) (pa_dcons (pd_int) (pa_dcons (pd_op o_mul (pb_of (pd_str)) (pb_of (pd_int))) (pa_dnil)))))))))))) rfl (Or.inl rfl))
      (pss_dcons (ps_dset 2 nd (pd_fz (pf_op o_cat (pb_of (pd_var 2)) (pb_of (pd_fz (pf_lst (pa_dcons (pd_tup (pa_dcons (pd_str) (pa_dnil))) (pa_dcons (pd_tup (pa_dcons (pd_str) (pa_dnil))) (pa_dcons (pd_tup (pa_dnil)) (pa_dcons (pd_fz (pf_lst (pa_dnil))) (pa_dcons (pd_edict) (pa_dcons (pd_str) (pa_dnil)))))))))))) rfl (Or.inl rfl))
      (pss_dcons (ps_dset 2 nd (pd_fz (pf_op o_cat (pb_of (pd_var 2)) (pb_of (pd_fz (pf_lst (pa_dcons (pd_op o_pow (pb_of (pd_int)) (pb_of (pd_int))) (pa_dcons (pd_int) (pa_dcons (pd_tup (pa_dcons (pd_str) (pa_dcons (pd_str) (pa_dnil)))) (pa_dcons (pd_tup (pa_dcons (pd_str) (pa_dcons (pd_str) (pa_dnil)))) (pa_dcons (pd_tup (pa_dcons (pd_str) (pa_dcons (pd_str) (pa_dnil)))) (pa_dnil))))))))))) rfl (Or.inl rfl))
      (pss_dcons (ps_dif (pt_d (pd_callB o_isi (by rfl) T.m_isinstance bb_isinstance (pb_cons (pb_of (pd_var 1)) (pb_cons (pb_of (pd_ty (by rfl) T.m_tuple bb_tuple)) (pb_nil)))))
      (pss_done (ps_dset 2 nd (pd_fz (pf_op o_cat (pb_of (pd_var 2)) (pb_of (pd_fz (pf_op o_repL (pb_of (pd_fz (pf_lst (pa_dcons (pd_fz (pf_callTy o_list (by rfl) T.m_list bb_list (pb_cons (pb_of (pd_var 1)) (pb_nil)))) (pa_dcons (pd_op o_add (pb_of (pd_var 1)) (pb_of (pd_slice (pb_of (pd_var 1)) (pp_some (pd_neg (pd_int))) (pp_none)))) (pa_dcons (pd_slice (pb_of (pd_var 1)) (pp_none) (pp_some (pd_neg (pd_int)))) (pa_dnil))))))) (pb_of (pd_int))))))) rfl (Or.inl rfl)))
      (pss_dnil))
      (pss_dcons (ps_dif (pt_d (pd_fn dx h_among (hr.mono (by decide)) (pa_dcons (pd_var 1) (pa_dcons (pd_int) (pa_dcons (pd_op o_pow (pb_of (pd_int)) (pb_of (pd_int))) (pa_dnil))))))
      (pss_done (ps_dset 2 nd (pd_fz (pf_op o_cat (pb_of (pd_var 2)) (pb_of (pd_fz (pf_lst (pa_dcons (pd_op o_add (pb_of (pd_var 1)) (pb_of (pd_int))) (pa_dcons (pd_op o_sub (pb_of (pd_var 1)) (pb_of (pd_int))) (pa_dcons (pd_neg (pd_var 1)) (pa_dcons (pd_callTy o_strI (by rfl) T.m_str bb_str (pb_cons (pb_of (pd_op o_mod (pb_of (pd_var 0)) (pb_of (pd_int)))) (pb_nil))) (pa_dnil)))))))))) rfl (Or.inl rfl)))
      (pss_dnil))
      (pss_done (ps_dret (pd_ix (pb_of (pd_var 2)) (pb_of (pd_op o_mod (pb_of (pd_var 0)) (pb_of (pd_callB o_len (by rfl) T.m_len bb_len (pb_cons (pb_of (pd_var 2)) (pb_nil)))))))))))))
theorem w_spoilt {P : Program} {wd : World} {K : PySem.W.Frag} {mg : Str → Option Value} {base : Heap} {c_BadRecord c_HouseError c_BadName c_BadLine c_BadLetter c_BadChange c_BadZone c_BadTurn c_BadRow k_KINDS : Addr} (T : Txt K mg c_BadRecord c_HouseError c_BadName c_BadLine c_BadLetter c_BadChange c_BadZone c_BadTurn c_BadRow k_KINDS)  (h_next : Has P wd K mg base 2 "_law_next" ps_next g_next) (h_odd : Has P wd K mg base 2 "_law_odd" ps_odd g_odd) {lv : Nat} {gs : DSpec} (h_self : Has P wd K mg base lv "_law_spoilt" ps_spoilt gs)
    {f : Addr} {cdv : Value} {A : Around} {outer : List Env} {s : Shared} {H : Hp} {E : XK} {B : Bs} {EP : Value → Sto → Prop} (hr : Room 2 (A.deeper (envOfC "_law_spoilt" (defScope st_spoilt) s.heap.objs.size f cdv))) (hrs : Room lv (A.deeper (envOfC "_law_spoilt" (defScope st_spoilt) s.heap.objs.size f cdv)))
    (dx : DX (cxOf (L2.CX P wd) P wd K mg base N_spoilt "_law_spoilt" (defScope st_spoilt) f cdv A outer s H E) B (fun cls d _ H => E cls d H) (fun c _ S => EP c S)) :
    PSsD (cxOf (L2.CX P wd) P wd K mg base N_spoilt "_law_spoilt" (defScope st_spoilt) f cdv A outer s H E) B (defBody st_spoilt) (t_spoilt K c_BadRecord c_HouseError c_BadName c_BadLine c_BadLetter c_BadChange c_BadZone c_BadTurn c_BadRow k_KINDS gs fun c _ S => EP c S) := by
  have hu : (cxOf (L2.CX P wd) P wd K mg base N_spoilt "_law_spoilt" (defScope st_spoilt) f cdv A outer s H E).A.units + 100 < cLine := by
    have := hr.un
    show (A.deeper _).units + 100 < cLine
    omega
  have hu1 : (cxOf (L2.CX P wd) P wd K mg base N_spoilt "_law_spoilt" (defScope st_spoilt) f cdv A outer s H E).A.units + 1 < cLine := by omega
  have nd := sc_spoilt.nd
  have hp : PassesOwn (model P wd) (cxOf (L2.CX P wd) P wd K mg base N_spoilt "_law_spoilt" (defScope st_spoilt) f cdv A outer s H E).A (cxOf (L2.CX P wd) P wd K mg base N_spoilt "_law_spoilt" (defScope st_spoilt) f cdv A outer s H E).env (cxOf (L2.CX P wd) P wd K mg base N_spoilt "_law_spoilt" (defScope st_spoilt) f cdv A outer s H E).xe := passes_of rfl
  exact pss_dcons (ps_dset 2 nd (pd_fn dx h_next (hr.mono (by decide)) (pa_dcons (pd_var 0) (pa_dnil))) rfl (Or.inl rfl))
      (pss_dcons (ps_dif ((pw_dor (pt_dnot (pt_d (pd_callB o_isi (by rfl) T.m_isinstance bb_isinstance (pb_cons (pb_of (pd_var 1)) (pb_cons (pb_of (pd_ty (by rfl) T.m_tuple bb_tuple)) (pb_nil)))))) (pw_dor (pt_dcmp (o_eq hu) (pb_of (pd_var 1)) (pb_of (pd_tup (pa_dnil)))) (pw_dor1 (pt_dcmp (o_eq hu) (pb_of (pd_op o_mod (pb_of (pd_var 2)) (pb_of (pd_int)))) (pb_of (pd_int)))))).pt)
      (pss_done (ps_dret (pd_fn dx h_odd (hr.mono (by decide)) (pa_dcons (pd_op o_fdiv (pb_of (pd_var 2)) (pb_of (pd_int))) (pa_dcons (pd_var 1) (pa_dnil))))))
      (pss_dnil))
      (pss_dcons (ps_dset 3 nd (pd_op o_mod (pb_of (pd_op o_fdiv (pb_of (pd_var 2)) (pb_of (pd_int)))) (pb_of (pd_callB o_len (by rfl) T.m_len bb_len (pb_cons (pb_of (pd_var 1)) (pb_nil))))) rfl (Or.inl rfl))
      (pss_done (ps_dret (pd_op o_add (pb_of (pd_op o_add (pb_of (pd_slice (pb_of (pd_var 1)) (pp_none) (pp_some (pd_var 3)))) (pb_of (pd_tup (pa_dcons (pd_fn dx h_self hrs (pa_dcons (pd_var 0) (pa_dcons (pd_ix (pb_of (pd_var 1)) (pb_of (pd_var 3))) (pa_dnil)))) (pa_dnil)))))) (pb_of (pd_slice (pb_of (pd_var 1)) (pp_some (pd_op o_add (pb_of (pd_var 3)) (pb_of (pd_int)))) (pp_none))))))))
theorem w_less {P : Program} {wd : World} {K : PySem.W.Frag} {mg : Str → Option Value} {base : Heap} {c_BadRecord c_HouseError c_BadName c_BadLine c_BadLetter c_BadChange c_BadZone c_BadTurn c_BadRow k_KINDS : Addr} (T : Txt K mg c_BadRecord c_HouseError c_BadName c_BadLine c_BadLetter c_BadChange c_BadZone c_BadTurn c_BadRow k_KINDS)  (h_before : Has P wd K mg base 1 "_law_before" ps_before g_before)
    {f : Addr} {cdv : Value} {A : Around} {outer : List Env} {s : Shared} {H : Hp} {E : XK} {B : Bs} {EP : Value → Sto → Prop} (hr : Room 1 (A.deeper (envOfC "_law_less" (defScope st_less) s.heap.objs.size f cdv)))
    (dx : DX (cxOf (L2.CX P wd) P wd K mg base N_less "_law_less" (defScope st_less) f cdv A outer s H E) B (fun cls d _ H => E cls d H) (fun c _ S => EP c S)) :
    PSsD (cxOf (L2.CX P wd) P wd K mg base N_less "_law_less" (defScope st_less) f cdv A outer s H E) B (defBody st_less) (t_less K c_BadRecord c_HouseError c_BadName c_BadLine c_BadLetter c_BadChange c_BadZone c_BadTurn c_BadRow k_KINDS fun c _ S => EP c S) := by
  have hu : (cxOf (L2.CX P wd) P wd K mg base N_less "_law_less" (defScope st_less) f cdv A outer s H E).A.units + 100 < cLine := by
    have := hr.un
    show (A.deeper _).units + 100 < cLine
    omega
  have hu1 : (cxOf (L2.CX P wd) P wd K mg base N_less "_law_less" (defScope st_less) f cdv A outer s H E).A.units + 1 < cLine := by omega
  have nd := sc_less.nd
  have hp : PassesOwn (model P wd) (cxOf (L2.CX P wd) P wd K mg base N_less "_law_less" (defScope st_less) f cdv A outer s H E).A (cxOf (L2.CX P wd) P wd K mg base N_less "_law_less" (defScope st_less) f cdv A outer s H E).env (cxOf (L2.CX P wd) P wd K mg base N_less "_law_less" (defScope st_less) f cdv A outer s H E).xe := passes_of rfl
  exact pss_dcons (ps_dif ((pw_dor (pt_dcmp (o_eq hu) (pb_of (pd_var 0)) (pb_of (pd_str))) (pw_dor1 (pt_dcmp (o_eq hu) (pb_of (pd_var 0)) (pb_of (pd_str))))).pt)
      (pss_done (ps_dret (pd_fn dx h_before (hr.mono (by decide)) (pa_dcons (pd_var 1) (pa_dcons (pd_var 2) (pa_dnil))))))
      (pss_dnil))
      (pss_dcons (ps_dif ((pw_dand (pt_dcmp (o_eq hu) (pb_of (pd_var 0)) (pb_of (pd_str))) (pw_dand1 (pt_dcmp (o_ne hu) (pb_of (pd_ix (pb_of (pd_var 1)) (pb_of (pd_int)))) (pb_of (pd_ix (pb_of (pd_var 2)) (pb_of (pd_int))))))).pt)
      (pss_done (ps_dret (pd_fn dx h_before (hr.mono (by decide)) (pa_dcons (pd_ix (pb_of (pd_var 1)) (pb_of (pd_int))) (pa_dcons (pd_ix (pb_of (pd_var 2)) (pb_of (pd_int))) (pa_dnil))))))
      (pss_dnil))
      (pss_dcons (ps_dif (pt_dcmp (o_eq hu) (pb_of (pd_var 0)) (pb_of (pd_str)))
      (pss_done (ps_dret (pd_cmp (o_ltA hu) (pb_of (pd_ix (pb_of (pd_var 1)) (pb_of (pd_int)))) (pb_of (pd_ix (pb_of (pd_var 2)) (pb_of (pd_int)))))))
      (pss_dnil))
      (pss_done (ps_dret (pd_cmp (o_ltA hu) (pb_of (pd_var 1)) (pb_of (pd_var 2)))))))
theorem w_ahead {P : Program} {wd : World} {K : PySem.W.Frag} {mg : Str → Option Value} {base : Heap} {c_BadRecord c_HouseError c_BadName c_BadLine c_BadLetter c_BadChange c_BadZone c_BadTurn c_BadRow k_KINDS : Addr} (T : Txt K mg c_BadRecord c_HouseError c_BadName c_BadLine c_BadLetter c_BadChange c_BadZone c_BadTurn c_BadRow k_KINDS)  (h_before : Has P wd K mg base 1 "_law_before" ps_before g_before) (h_less : Has P wd K mg base 2 "_law_less" ps_less g_less)
    {f : Addr} {cdv : Value} {A : Around} {outer : List Env} {s : Shared} {H : Hp} {E : XK} {B : Bs} {EP : Value → Sto → Prop} (hr : Room 2 (A.deeper (envOfC "_law_ahead" (defScope st_ahead) s.heap.objs.size f cdv)))
    (dx : DX (cxOf (L2.CX P wd) P wd K mg base N_ahead "_law_ahead" (defScope st_ahead) f cdv A outer s H E) B (fun cls d _ H => E cls d H) (fun c _ S => EP c S)) :
    PSsD (cxOf (L2.CX P wd) P wd K mg base N_ahead "_law_ahead" (defScope st_ahead) f cdv A outer s H E) B (defBody st_ahead) (t_ahead K c_BadRecord c_HouseError c_BadName c_BadLine c_BadLetter c_BadChange c_BadZone c_BadTurn c_BadRow k_KINDS fun c _ S => EP c S) := by
  have hu : (cxOf (L2.CX P wd) P wd K mg base N_ahead "_law_ahead" (defScope st_ahead) f cdv A outer s H E).A.units + 100 < cLine := by
    have := hr.un
    show (A.deeper _).units + 100 < cLine
    omega
  have hu1 : (cxOf (L2.CX P wd) P wd K mg base N_ahead "_law_ahead" (defScope st_ahead) f cdv A outer s H E).A.units + 1 < cLine := by omega
  have nd := sc_ahead.nd
  have hp : PassesOwn (model P wd) (cxOf (L2.CX P wd) P wd K mg base N_ahead "_law_ahead" (defScope st_ahead) f cdv A outer s H E).A (cxOf (L2.CX P wd) P wd K mg base N_ahead "_law_ahead" (defScope st_ahead) f cdv A outer s H E).env (cxOf (L2.CX P wd) P wd K mg base N_ahead "_law_ahead" (defScope st_ahead) f cdv A outer s H E).xe := passes_of rfl
  exact pss_dcons (ps_dif (pt_dcmp (o_ne hu) (pb_of (pd_ix (pb_of (pd_var 0)) (pb_of (pd_int)))) (pb_of (pd_ix (pb_of (pd_var 1)) (pb_of (pd_int)))))
      (pss_done (ps_dret (pd_fn dx h_before (hr.mono (by decide)) (pa_dcons (pd_ix (pb_of (pd_var 0)) (pb_of (pd_int))) (pa_dcons (pd_ix (pb_of (pd_var 1)) (pb_of (pd_int))) (pa_dnil))))))
      (pss_dnil))
      (pss_dcons (ps_dif (pt_dcmp (o_ne hu) (pb_of (pd_ix (pb_of (pd_var 0)) (pb_of (pd_int)))) (pb_of (pd_ix (pb_of (pd_var 1)) (pb_of (pd_int)))))
      (pss_done (ps_dret (pd_cmp (o_ltS) (pb_of (pd_ix (pb_of (pd_var 0)) (pb_of (pd_int)))) (pb_of (pd_ix (pb_of (pd_var 1)) (pb_of (pd_int)))))))
      (pss_dnil))
      (pss_dcons (ps_dif (pt_dcmp (o_ne hu) (pb_of (pd_ix (pb_of (pd_var 0)) (pb_of (pd_int)))) (pb_of (pd_ix (pb_of (pd_var 1)) (pb_of (pd_int)))))
      (pss_done (ps_dret (pd_fn dx h_less (hr.mono (by decide)) (pa_dcons (pd_ix (pb_of (pd_var 0)) (pb_of (pd_int))) (pa_dcons (pd_ix (pb_of (pd_var 0)) (pb_of (pd_int))) (pa_dcons (pd_ix (pb_of (pd_var 1)) (pb_of (pd_int))) (pa_dnil)))))))
      (pss_dnil))
      (pss_done (ps_dret (pd_cmp (o_ltS) (pb_of (pd_ix (pb_of (pd_var 0)) (pb_of (pd_int)))) (pb_of (pd_ix (pb_of (pd_var 1)) (pb_of (pd_int)))))))))
theorem w_sorted {P : Program} {wd : World} {K : PySem.W.Frag} {mg : Str → Option Value} {base : Heap} {c_BadRecord c_HouseError c_BadName c_BadLine c_BadLetter c_BadChange c_BadZone c_BadTurn c_BadRow k_KINDS : Addr} (T : Txt K mg c_BadRecord c_HouseError c_BadName c_BadLine c_BadLetter c_BadChange c_BadZone c_BadTurn c_BadRow k_KINDS)  (h_ahead : Has P wd K mg base 3 "_law_ahead" ps_ahead g_ahead)
    {f : Addr} {cdv : Value} {A : Around} {outer : List Env} {s : Shared} {H : Hp} {E : XK} {B : Bs} {EP : Value → Sto → Prop} (hr : Room 3 (A.deeper (envOfC "_law_sorted" (defScope st_sorted) s.heap.objs.size f cdv)))
    (dx : DX (cxOf (L2.CX P wd) P wd K mg base N_sorted "_law_sorted" (defScope st_sorted) f cdv A outer s H E) B (fun cls d _ H => E cls d H) (fun c _ S => EP c S)) :
    PSsD (cxOf (L2.CX P wd) P wd K mg base N_sorted "_law_sorted" (defScope st_sorted) f cdv A outer s H E) B (defBody st_sorted) (t_sorted K c_BadRecord c_HouseError c_BadName c_BadLine c_BadLetter c_BadChange c_BadZone c_BadTurn c_BadRow k_KINDS fun c _ S => EP c S) := by
  have hu : (cxOf (L2.CX P wd) P wd K mg base N_sorted "_law_sorted" (defScope st_sorted) f cdv A outer s H E).A.units + 100 < cLine := by
    have := hr.un
    show (A.deeper _).units + 100 < cLine
    omega
  have hu1 : (cxOf (L2.CX P wd) P wd K mg base N_sorted "_law_sorted" (defScope st_sorted) f cdv A outer s H E).A.units + 1 < cLine := by omega
  have nd := sc_sorted.nd
  have hp : PassesOwn (model P wd) (cxOf (L2.CX P wd) P wd K mg base N_sorted "_law_sorted" (defScope st_sorted) f cdv A outer s H E).A (cxOf (L2.CX P wd) P wd K mg base N_sorted "_law_sorted" (defScope st_sorted) f cdv A outer s H E).env (cxOf (L2.CX P wd) P wd K mg base N_sorted "_law_sorted" (defScope st_sorted) f cdv A outer s H E).xe := passes_of rfl
  exact pss_dcons (ps_dsetF 1 nd (pf_lst (pa_dnil)) rfl (Or.inl rfl))
      (pss_dcons (ps_dfor hp rfl (pi_dlist (pd_var 0)) (pg_dname 2 nd rfl (Or.inl rfl)) (fun B u3 => pss_dcons (ps_dset 3 nd (pd_callB o_len (by rfl) T.m_len bb_len (pb_cons (pb_var 1) (pb_nil))) rfl (Or.inl rfl))
      (pss_dcons (ps_dwhile hp ((pw_dand (pt_dcmp (o_gt) (pb_of (pd_var 3)) (pb_of (pd_int))) (pw_dand1 (pt_d (pd_fn (dx.up u3) h_ahead (hr.mono (by decide)) (pa_dcons (pd_var 2) (pa_dcons (pd_ix (pb_var 1) (pb_of (pd_op o_sub (pb_of (pd_var 3)) (pb_of (pd_int))))) (pa_dnil))))))).pt) (pss_done (ps_dset 3 nd (pd_op o_sub (pb_of (pd_var 3)) (pb_of (pd_int))) rfl (Or.inl rfl))))
      (pss_done (ps_dins 1 (pd_var 3) (pd_var 2))))))
      (pss_done (ps_dretO 1)))
theorem w_some {P : Program} {wd : World} {K : PySem.W.Frag} {mg : Str → Option Value} {base : Heap} {c_BadRecord c_HouseError c_BadName c_BadLine c_BadLetter c_BadChange c_BadZone c_BadTurn c_BadRow k_KINDS : Addr} (T : Txt K mg c_BadRecord c_HouseError c_BadName c_BadLine c_BadLetter c_BadChange c_BadZone c_BadTurn c_BadRow k_KINDS)  (h_next : Has P wd K mg base 2 "_law_next" ps_next g_next) (h_record : Has P wd K mg base 6 "_law_record" ps_record g_record) (h_data : Has P wd K mg base 5 "_law_data" ps_data g_data)
    {f : Addr} {cdv : Value} {A : Around} {outer : List Env} {s : Shared} {H : Hp} {E : XK} {B : Bs} {EP : Value → Sto → Prop} (hr : Room 6 (A.deeper (envOfC "_law_some" (defScope st_some) s.heap.objs.size f cdv)))
    (dx : DX (cxOf (L2.CX P wd) P wd K mg base N_some "_law_some" (defScope st_some) f cdv A outer s H E) B (fun cls d _ H => E cls d H) (fun c _ S => EP c S)) :
    PSsD (cxOf (L2.CX P wd) P wd K mg base N_some "_law_some" (defScope st_some) f cdv A outer s H E) B (defBody st_some) (t_some K c_BadRecord c_HouseError c_BadName c_BadLine c_BadLetter c_BadChange c_BadZone c_BadTurn c_BadRow k_KINDS fun c _ S => EP c S) := by
  have hu : (cxOf (L2.CX P wd) P wd K mg base N_some "_law_some" (defScope st_some) f cdv A outer s H E).A.units + 100 < cLine := by
    have := hr.un
    show (A.deeper _).units + 100 < cLine
    omega
  have hu1 : (cxOf (L2.CX P wd) P wd K mg base N_some "_law_some" (defScope st_some) f cdv A outer s H E).A.units + 1 < cLine := by omega
  have nd := sc_some.nd
  have hp : PassesOwn (model P wd) (cxOf (L2.CX P wd) P wd K mg base N_some "_law_some" (defScope st_some) f cdv A outer s H E).A (cxOf (L2.CX P wd) P wd K mg base N_some "_law_some" (defScope st_some) f cdv A outer s H E).env (cxOf (L2.CX P wd) P wd K mg base N_some "_law_some" (defScope st_some) f cdv A outer s H E).xe := passes_of rfl
  exact pss_dcons (ps_dsetF 2 nd (pf_lst (pa_dnil)) rfl (Or.inl rfl))
      (pss_dcons (ps_dfor hp rfl (pi_drange1 (by rfl) T.m_range (pa_dcons (pd_op o_mod (pb_of (pd_fn dx h_next (hr.mono (by decide)) (pa_dcons (pd_var 0) (pa_dnil)))) (pb_of (pd_int))) (pa_dnil))) (pg_dname 3 nd rfl (Or.inl rfl)) (fun B u4 => pss_dcons (ps_dset 4 nd (pd_fn (dx.up u4) h_record (hr.mono (by decide)) (pa_dcons (pd_var 0) (pa_dcons (pd_var 1) (pa_dnil)))) rfl (Or.inl rfl))
      (pss_dcons (ps_dset 5 nd (pd_fn (dx.up u4) h_next (hr.mono (by decide)) (pa_dcons (pd_var 0) (pa_dnil))) rfl (Or.inl rfl))
      (pss_dcons (ps_dif ((pw_dand (pt_dcmp (o_ne hu) (pb_var 2) (pb_of (pd_fz (pf_lst (pa_dnil))))) (pw_dand1 (pt_dcmp (o_eq hu) (pb_of (pd_op o_mod (pb_of (pd_var 5)) (pb_of (pd_int)))) (pb_of (pd_int))))).pt)
      (pss_dcons (ps_dset 6 nd (pd_ix (pb_var 2) (pb_of (pd_op o_mod (pb_of (pd_op o_fdiv (pb_of (pd_var 5)) (pb_of (pd_int)))) (pb_of (pd_callB o_len (by rfl) T.m_len bb_len (pb_cons (pb_var 2) (pb_nil))))))) rfl (Or.inl rfl))
      (pss_dcons (ps_dsetF 7 nd (pf_lst (pa_dcons (pd_var 6) (pa_dcons (pd_tup (pa_dcons (pd_ix (pb_of (pd_var 6)) (pb_of (pd_int))) (pa_dcons (pd_ix (pb_of (pd_var 6)) (pb_of (pd_int))) (pa_dcons (pd_ix (pb_of (pd_var 4)) (pb_of (pd_int))) (pa_dcons (pd_ix (pb_of (pd_var 6)) (pb_of (pd_int))) (pa_dnil)))))) (pa_dcons (pd_op o_add (pb_of (pd_tup (pa_dcons (pd_ix (pb_of (pd_var 4)) (pb_of (pd_int))) (pa_dnil)))) (pb_of (pd_slice (pb_of (pd_var 6)) (pp_some (pd_int)) (pp_none)))) (pa_dnil))))) rfl (Or.inl rfl))
      (pss_dcons (ps_dapp 7 (pd_tup (pa_dcons (pd_ix (pb_of (pd_var 6)) (pb_of (pd_int))) (pa_dcons (pd_ix (pb_of (pd_var 6)) (pb_of (pd_int))) (pa_dcons (pd_ix (pb_of (pd_var 6)) (pb_of (pd_int))) (pa_dcons (pd_fn (dx.up u4) h_data (hr.mono (by decide)) (pa_dcons (pd_var 0) (pa_dcons (pd_ix (pb_of (pd_var 6)) (pb_of (pd_int))) (pa_dcons (pd_var 1) (pa_dnil))))) (pa_dnil)))))))
      (pss_done (ps_dset 4 nd (pd_ix (pb_var 7) (pb_of (pd_op o_mod (pb_of (pd_op o_fdiv (pb_of (pd_var 5)) (pb_of (pd_int)))) (pb_of (pd_int))))) rfl (Or.inl rfl))))))
      (pss_dnil))
      (pss_done (ps_dapp 2 (pd_var 4)))))))
      (pss_done (ps_dretO 2)))
theorem w_word {P : Program} {wd : World} {K : PySem.W.Frag} {mg : Str → Option Value} {base : Heap} {c_BadRecord c_HouseError c_BadName c_BadLine c_BadLetter c_BadChange c_BadZone c_BadTurn c_BadRow k_KINDS : Addr} (T : Txt K mg c_BadRecord c_HouseError c_BadName c_BadLine c_BadLetter c_BadChange c_BadZone c_BadTurn c_BadRow k_KINDS)  (h_p_ordered : Has P wd K mg base 8 "ordered" ps_p_ordered (g_p_ordered c_BadRecord))
    {f : Addr} {cdv : Value} {A : Around} {outer : List Env} {s : Shared} {H : Hp} {E : XK} {B : Bs} {EP : Value → Sto → Prop} (hr : Room 8 (A.deeper (envOfC "_law_word" (defScope st_word) s.heap.objs.size f cdv)))
    (dx : DX (cxOf (L2.CX P wd) P wd K mg base N_word "_law_word" (defScope st_word) f cdv A outer s H E) B (fun cls d _ H => E cls d H) (fun c _ S => EP c S)) :
    PSsD (cxOf (L2.CX P wd) P wd K mg base N_word "_law_word" (defScope st_word) f cdv A outer s H E) B (defBody st_word) (t_word K c_BadRecord c_HouseError c_BadName c_BadLine c_BadLetter c_BadChange c_BadZone c_BadTurn c_BadRow k_KINDS fun c _ S => EP c S) := by
  have hu : (cxOf (L2.CX P wd) P wd K mg base N_word "_law_word" (defScope st_word) f cdv A outer s H E).A.units + 100 < cLine := by
    have := hr.un
    show (A.deeper _).units + 100 < cLine
    omega
  have hu1 : (cxOf (L2.CX P wd) P wd K mg base N_word "_law_word" (defScope st_word) f cdv A outer s H E).A.units + 1 < cLine := by omega
  have nd := sc_word.nd
  have hp : PassesOwn (model P wd) (cxOf (L2.CX P wd) P wd K mg base N_word "_law_word" (defScope st_word) f cdv A outer s H E).A (cxOf (L2.CX P wd) P wd K mg base N_word "_law_word" (defScope st_word) f cdv A outer s H E).env (cxOf (L2.CX P wd) P wd K mg base N_word "_law_word" (defScope st_word) f cdv A outer s H E).xe := passes_of rfl
  exact pss_dcons (ps_dset 1 nd (pd_non) rfl (Or.inl rfl))
      (pss_dcons (ps_dtry rfl rfl rfl nd dx 2 rfl rfl ⟨rfl, by decide, Or.inl T.m_HouseError⟩ (fun W ewT pn xe dxT hp => pss_done (ps_ddrop (pd_fn dxT h_p_ordered (hr.mono (by decide)) (pa_dcons (pd_var 0) (pa_dnil)))))
      (fun a pn => pss_done (ps_dset 1 nd (pd_var 2) rfl (Or.inl rfl))))
      (pss_dcons (ps_dset 3 nd (pd_callB o_isi (by rfl) T.m_isinstance bb_isinstance (pb_cons (pb_of (pd_var 1)) (pb_cons (pb_of (pd_tup (pa_dcons (pd_gcls (by rfl) T.m_BadChange) (pa_dcons (pd_gcls (by rfl) T.m_BadLetter) (pa_dcons (pd_gcls (by rfl) T.m_BadLine) (pa_dcons (pd_gcls (by rfl) T.m_BadName) (pa_dnil))))))) (pb_nil)))) rfl (Or.inl rfl))
      (pss_dcons (ps_dset 3 nd (pd_or (pd_var 3) (pd_one (pd_callB o_isi (by rfl) T.m_isinstance bb_isinstance (pb_cons (pb_of (pd_var 1)) (pb_cons (pb_of (pd_tup (pa_dcons (pd_gcls (by rfl) T.m_BadRow) (pa_dcons (pd_gcls (by rfl) T.m_BadTurn) (pa_dcons (pd_gcls (by rfl) T.m_BadZone) (pa_dnil)))))) (pb_nil)))))) rfl (Or.inl rfl))
      (pss_done (ps_dret (pd_and (pd_callB o_isi (by rfl) T.m_isinstance bb_isinstance (pb_cons (pb_of (pd_var 1)) (pb_cons (pb_of (pd_gcls (by rfl) T.m_BadRecord)) (pb_nil)))) (pd_and (pd_callB o_isi (by rfl) T.m_isinstance bb_isinstance (pb_cons (pb_of (pd_var 1)) (pb_cons (pb_of (pd_ty (by rfl) T.m_ValueError bb_ValueError)) (pb_nil)))) (pd_one (pd_not (pd_var 3))))))))))
theorem w_law {P : Program} {wd : World} {K : PySem.W.Frag} {mg : Str → Option Value} {base : Heap} {c_BadRecord c_HouseError c_BadName c_BadLine c_BadLetter c_BadChange c_BadZone c_BadTurn c_BadRow k_KINDS : Addr} (T : Txt K mg c_BadRecord c_HouseError c_BadName c_BadLine c_BadLetter c_BadChange c_BadZone c_BadTurn c_BadRow k_KINDS)  (h_labels : Has P wd K mg base 3 "_law_labels" ps_labels g_labels) (h_kinds : Has P wd K mg base 1 "_law_kinds" ps_kinds g_kinds) (h_some : Has P wd K mg base 7 "_law_some" ps_some g_some) (h_sorted : Has P wd K mg base 4 "_law_sorted" ps_sorted g_sorted) (h_p_ordered : Has P wd K mg base 8 "ordered" ps_p_ordered (g_p_ordered c_BadRecord)) (h_record : Has P wd K mg base 6 "_law_record" ps_record g_record) (h_spoilt : Has P wd K mg base 6 "_law_spoilt" ps_spoilt (g_spoilt 3)) (h_p_is_record : Has P wd K mg base 6 "is_record" ps_p_is_record g_p_is_record) (h_is_record : Has P wd K mg base 4 "_law_is_record" ps_is_record g_is_record) (h_next : Has P wd K mg base 2 "_law_next" ps_next g_next) (h_word : Has P wd K mg base 9 "_law_word" ps_word g_word)
    {f : Addr} {cdv : Value} {A : Around} {outer : List Env} {s : Shared} {H : Hp} {E : XK} {B : Bs} {EP : Value → Sto → Prop} (hr : Room 9 (A.deeper (envOfC "law" (defScope st_law) s.heap.objs.size f cdv)))
    (dx : DX (cxOf (L2.CX P wd) P wd K mg base N_law "law" (defScope st_law) f cdv A outer s H E) B (fun cls d _ H => E cls d H) (fun c _ S => EP c S)) :
    PSsD (cxOf (L2.CX P wd) P wd K mg base N_law "law" (defScope st_law) f cdv A outer s H E) B (defBody st_law) (t_law K c_BadRecord c_HouseError c_BadName c_BadLine c_BadLetter c_BadChange c_BadZone c_BadTurn c_BadRow k_KINDS fun c _ S => EP c S) := by
  have hu : (cxOf (L2.CX P wd) P wd K mg base N_law "law" (defScope st_law) f cdv A outer s H E).A.units + 100 < cLine := by
    have := hr.un
    show (A.deeper _).units + 100 < cLine
    omega
  have hu1 : (cxOf (L2.CX P wd) P wd K mg base N_law "law" (defScope st_law) f cdv A outer s H E).A.units + 1 < cLine := by omega
  have nd := sc_law.nd
  have hp : PassesOwn (model P wd) (cxOf (L2.CX P wd) P wd K mg base N_law "law" (defScope st_law) f cdv A outer s H E).A (cxOf (L2.CX P wd) P wd K mg base N_law "law" (defScope st_law) f cdv A outer s H E).env (cxOf (L2.CX P wd) P wd K mg base N_law "law" (defScope st_law) f cdv A outer s H E).xe := passes_of rfl
  exact pss_dcons (ps_dset 1 nd (pd_disp (pps_dcons (pd_var 0) (pps_dcons (pd_int) (pps_dnil))) (by decide +kernel) (by decide)) rfl (Or.inl rfl))
      (pss_dcons (ps_dset 2 nd (pd_fn dx h_labels (hr.mono (by decide)) (pa_dcons (pd_var 1) (pa_dnil))) rfl (Or.inl rfl))
      (pss_dcons (ps_dif ((pw_dor (pt_dnot (pt_d (pd_callB o_isi (by rfl) T.m_isinstance bb_isinstance (pb_cons (pb_of (pd_gtup (by rfl) T.m_KINDS T.t_KINDS)) (pb_cons (pb_of (pd_ty (by rfl) T.m_tuple bb_tuple)) (pb_nil)))))) (pw_dor1 (pt_dcmp (o_ne hu) (pb_of (pd_gtup (by rfl) T.m_KINDS T.t_KINDS)) (pb_of (pd_fn0 h_kinds (hr.mono (by decide))))))).pt)
      (pss_done (ps_dret (pd_bl)))
      (pss_dnil))
      (pss_dcons (ps_dset 3 nd (pd_fn dx h_some (hr.mono (by decide)) (pa_dcons (pd_var 1) (pa_dcons (pd_var 2) (pa_dnil)))) rfl (Or.inl rfl))
      (pss_dcons (ps_dset 4 nd (pd_fn dx h_sorted (hr.mono (by decide)) (pa_dcons (pd_var 3) (pa_dnil))) rfl (Or.inl rfl))
      (pss_dcons (ps_dset 5 nd (pd_fz (pf_callTy o_list (by rfl) T.m_list bb_list (pb_cons (pb_of (pd_var 3)) (pb_nil)))) rfl (Or.inl rfl))
      (pss_dcons (ps_dsetF 6 nd (pf_fn dx h_p_ordered (hr.mono (by decide)) (pa_dcons (pd_var 5) (pa_dnil))) rfl (Or.inl rfl))
      (pss_dcons (ps_dif ((pw_dor (pt_dnot (pt_d (pd_callB o_isi (by rfl) T.m_isinstance bb_isinstance (pb_cons (pb_var 6) (pb_cons (pb_of (pd_ty (by rfl) T.m_list bb_list)) (pb_nil)))))) (pw_dor (pt_dcmp (o_ne hu) (pb_var 6) (pb_of (pd_var 4))) (pw_dor (pt_dcmp (o_ne hu) (pb_of (pd_var 5)) (pb_of (pd_var 3))) (pw_dor1 (pt_dcmp (o_ne hu) (pb_of (pd_fn dx h_p_ordered (hr.mono (by decide)) (pa_dcons (pd_fz (pf_revL (pb_of (pd_var 3)))) (pa_dnil)))) (pb_of (pd_var 4))))))).pt)
      (pss_done (ps_dret (pd_bl)))
      (pss_dnil))
      (pss_dcons (ps_dapp 6 (pd_non))
      (pss_dcons (ps_dif (pt_dcmp (o_ne hu) (pb_of (pd_fn dx h_p_ordered (hr.mono (by decide)) (pa_dcons (pd_var 5) (pa_dnil)))) (pb_of (pd_var 4)))
      (pss_done (ps_dret (pd_bl)))
      (pss_dnil))
      (pss_dcons (ps_dfor hp rfl (pi_drange1 (by rfl) T.m_range (pa_dcons (pd_int) (pa_dnil))) (pg_dname 7 nd rfl (Or.inl rfl)) (fun B u5 => pss_dcons (ps_dset 8 nd (pd_fn (dx.up u5) h_record (hr.mono (by decide)) (pa_dcons (pd_var 1) (pa_dcons (pd_var 2) (pa_dnil)))) rfl (Or.inl rfl))
      (pss_dcons (ps_dset 9 nd (pd_fn (dx.up u5) h_spoilt (hr.mono (by decide)) (pa_dcons (pd_var 1) (pa_dcons (pd_var 8) (pa_dnil)))) rfl (Or.inl rfl))
      (pss_dcons (ps_dset 10 nd (pd_fn (dx.up u5) h_p_is_record (hr.mono (by decide)) (pa_dcons (pd_var 9) (pa_dnil))) rfl (Or.inl rfl))
      (pss_dcons (ps_dif ((pw_dor (pt_dcmp (o_notB) (pb_of (pd_fn (dx.up u5) h_p_is_record (hr.mono (by decide)) (pa_dcons (pd_var 8) (pa_dnil)))) (pb_of (pd_bl))) (pw_dor (pt_dnot (pt_d (pd_callB o_isi (by rfl) T.m_isinstance bb_isinstance (pb_cons (pb_of (pd_var 10)) (pb_cons (pb_of (pd_ty (by rfl) T.m_bool bb_bool)) (pb_nil)))))) (pw_dor1 (pt_dcmp (o_ne hu) (pb_of (pd_var 10)) (pb_of (pd_fn (dx.up u5) h_is_record (hr.mono (by decide)) (pa_dcons (pd_var 9) (pa_dnil)))))))).pt)
      (pss_done (ps_dret (pd_bl)))
      (pss_dnil))
      (pss_dcons (ps_dset 11 nd (pd_fn (dx.up u5) h_next (hr.mono (by decide)) (pa_dcons (pd_var 1) (pa_dnil))) rfl (Or.inl rfl))
      (pss_dcons (ps_dset 12 nd (pd_op o_mod (pb_of (pd_var 11)) (pb_of (pd_op o_add (pb_of (pd_callB o_len (by rfl) T.m_len bb_len (pb_cons (pb_of (pd_var 3)) (pb_nil)))) (pb_of (pd_int))))) rfl (Or.inl rfl))
      (pss_done (ps_dif ((pw_dand (pt_dnot (pt_d (pd_var 10))) (pw_dand1 (pt_dnot (pt_d (pd_fn (dx.up u5) h_word (hr.mono (by decide)) (pa_dcons (pd_fz (pf_op o_cat (pb_of (pd_fz (pf_op o_cat (pb_of (pd_slice (pb_of (pd_var 3)) (pp_none) (pp_some (pd_var 12)))) (pb_of (pd_fz (pf_lst (pa_dcons (pd_var 9) (pa_dnil)))))))) (pb_of (pd_slice (pb_of (pd_var 3)) (pp_some (pd_var 12)) (pp_none))))) (pa_dnil))))))).pt)
      (pss_done (ps_dret (pd_bl)))
      (pss_dnil))))))))))
      (pss_done (ps_dret (pd_fn dx h_word (hr.mono (by decide)) (pa_dcons (pd_ix (pb_of (pd_fz (pf_lst (pa_dcons (pd_non) (pa_dcons (pd_callTy o_tuple (by rfl) T.m_tuple bb_tuple (pb_cons (pb_of (pd_var 3)) (pb_nil))) (pa_dcons (pd_str) (pa_dcons (pd_edict) (pa_dcons (pd_int) (pa_dnil))))))))) (pb_of (pd_op o_mod (pb_of (pd_fn dx h_next (hr.mono (by decide)) (pa_dcons (pd_var 1) (pa_dnil)))) (pb_of (pd_int))))) (pa_dnil)))))))))))))))
end DL.K03
namespace DL.K03
open PySem PySem.Spec PyProof.Rows L2
section
variable {K : PySem.W.Frag} {c_BadRecord c_HouseError c_BadName c_BadLine c_BadLetter c_BadChange c_BadZone c_BadTurn c_BadRow k_KINDS : Addr} {S : Sto} {P : W → Sto → Prop} {EP : Value → Sto → Prop}
abbrev EE (EP : Value → Sto → Prop) : EW := fun c _ S => EP c S
abbrev DDs (P : W → Sto → Prop) : DEnds := { nx := fun _ S' => P (.d .non) S', rt := P }
def sgD (d : D) : D := match d with
  | .str x => .bl (x.cps.toList.all signOk)
  | _ => .bl false
theorem sgD_map (s : Str) : boolsOf ((signsOf s).map sgD) = some (s.cps.toList.map signOk) := by
  rw [← boolsOf_map]
  congr 1
  unfold signsOf
  rw [List.map_map, List.map_map]
  refine List.map_congr_left fun c _ => ?_
  show D.bl ([c].all signOk) = D.bl (signOk c)
  rw [List.all_cons, List.all_nil, Bool.and_true]
theorem all_id (f : Nat → Bool) (l : List Nat) : (l.map f).all id = l.all f := by
  rw [List.all_map]
  rfl
theorem sign_in {c : Nat} {Q : D → Prop} (h : Q (.bl (signOk c))) : fIn false (.str ⟨#[c]⟩) (.str cSIGNS) Q := ⟨c, rfl, h⟩
theorem pure_p_is_plain : ∀ {ds : List D}, g_p_is_plain ds S P EP → t_p_is_plain K c_BadRecord c_HouseError c_BadName c_BadLine c_BadLetter c_BadChange c_BadZone c_BadTurn c_BadRow k_KINDS (EE EP) (DDs P) (startG 2 ds) S
  | [], h => h.elim
  | _ :: _ :: _, h => h.elim
  | [x], ⟨hx, h⟩ => by
    cases x with
    | str s =>
      have hs : s.length ≤ 100000 := Nat.le_trans (of_decide_eq_true hx) (by decide)
      have h : P (.d (.bl (plainS s))) S := h
      refine ⟨true, rfl, br_f ⟨hs, br (fun h1 => br (fun h2 => ?_) fun h2 => ?_) fun h1 => ?_⟩⟩
      · have h2' : decide ((s.length : Int) ≤ 8) = false := by
          revert h2
          cases decide ((s.length : Int) ≤ 8) <;> intro h2 <;> first | rfl | cases h2
        unfold plainS at h
        rw [h2', Bool.and_false, Bool.false_and] at h
        exact h
      · have h2' : decide ((s.length : Int) ≤ 8) = true := by
          revert h2
          cases decide ((s.length : Int) ≤ 8) <;> intro h2 <;> first | rfl | cases h2
        have h1' : decide (1 ≤ (s.length : Int)) = true := h1
        unfold plainS at h
        rw [h1', h2', Bool.true_and, Bool.true_and] at h
        refine compL_map sgD (signsOf s) [] (fun d m Q q => ?_) ?_ ?_
        · obtain ⟨c, _, rfl⟩ := List.mem_map.mp m
          have q : Q (.bl ([c].all signOk)) S := q
          rw [List.all_cons, List.all_nil, Bool.and_true] at q
          exact sign_in (Q := fun z => Q z S) q
        · show _ ≤ _
          unfold signsOf
          rw [List.length_map, List.length_nil, Nat.zero_add]
          exact hs
        · refine ⟨_, sgD_map s, ?_⟩
          rw [all_id]
          exact h
      · have h1' : decide (1 ≤ (s.length : Int)) = false := h1
        unfold plainS at h
        rw [h1', Bool.false_and, Bool.false_and] at h
        exact br_t h
    | ref _ => cases hx
    | exc _ => cases hx
    | val _ => cases hx
    | _ => exact ⟨false, rfl, br_t (br_t h)⟩
theorem pure_p_is_label : ∀ {ds : List D}, g_p_is_label ds S P EP → t_p_is_label K c_BadRecord c_HouseError c_BadName c_BadLine c_BadLetter c_BadChange c_BadZone c_BadTurn c_BadRow k_KINDS (EE EP) (DDs P) (startG 1 ds) S
  | [], h => h.elim
  | _ :: _ :: _, h => h.elim
  | [x], ⟨hx, h⟩ => by
    refine ⟨hx, br (fun h1 => ?_) fun h1 => ?_⟩
    · cases x <;> first | exact h | cases h1 | skip
      rename_i s
      have h1 : plainS s = true := h1
      have h : P (.d (.bl (plainS s || (s == ("*" : Str))))) S := h
      rw [h1] at h
      exact h
    · cases x with
      | str s =>
        have h1 : plainS s = false := h1
        have h : P (.d (.bl (plainS s || (s == ("*" : Str))))) S := h
        rw [h1, Bool.false_or] at h
        exact ⟨true, rfl, br_t ⟨ck_str _, ck_str _, h⟩⟩
      | ref _ => cases hx
      | exc _ => cases hx
      | val _ => cases hx
      | _ => exact ⟨false, rfl, br_f h⟩
theorem cut_to1 (ds : List D) : cutL ds none (some 1) = ds.take 1 := by
  unfold cutL
  rw [HT.sIx_none, show HT.sIx ds.length ds.length (some 1) = min 1 ds.length from HT.sIx_nat _ _ 1, List.drop_zero]
  cases ds with
  | nil => rfl
  | cons d ds =>
    rw [List.length_cons, show min 1 (ds.length + 1) - 0 = 1 by omega]
theorem cut_from1 (ds : List D) : cutL ds (some 1) none = ds.drop 1 := by
  unfold cutL
  rw [HT.sIx_none, show HT.sIx ds.length 0 (some 1) = min 1 ds.length from HT.sIx_nat _ _ 1]
  cases ds with
  | nil => rfl
  | cons d ds =>
    rw [List.length_cons, show min 1 (ds.length + 1) = 1 by omega]
    exact List.take_of_length_le (by rw [List.length_drop, List.length_cons]; exact Nat.le_refl _)
theorem bls {p : D → Bool} (ds : List D) : boolsOf (ds.map fun d => .bl (p d)) = some (ds.map p) := by
  rw [← boolsOf_map, List.map_map]
  rfl
theorem allmap {p : D → Bool} (ds : List D) : (ds.map p).all id = ds.all p := by
  rw [List.all_map]
  rfl
theorem pure_p_is_name : ∀ {ds : List D}, g_p_is_name ds S P EP → t_p_is_name K c_BadRecord c_HouseError c_BadName c_BadLine c_BadLetter c_BadChange c_BadZone c_BadTurn c_BadRow k_KINDS (EE EP) (DDs P) (startG 2 ds) S
  | [], h => h.elim
  | _ :: _ :: _, h => h.elim
  | [x], ⟨hx, h⟩ => by
    cases x with
    | tup ds =>
      have hk : ∀ d ∈ ds, okD d = true := fun d m => okDs_mem (show okDs ds = true from hx) m
      have h : P (.d (.bl (decide (ds.length ≤ 6) && ((ds.take 1).all labelD && (ds.drop 1).all plainD)))) S := h
      refine ⟨true, rfl, br_f (br (fun h1 => ?_) fun h1 => ?_)⟩
      · have h2 : decide (ds.length ≤ 6) = false := decide_eq_false (by have := of_decide_eq_true h1; omega)
        rw [h2, Bool.false_and] at h
        exact h
      · have h3 : ds.length ≤ 6 := by have := of_decide_eq_false h1; omega
        rw [decide_eq_true h3, Bool.true_and] at h
        refine compL_map (fun d => .bl (labelD d)) (cutL ds none (some 1)) [] (fun d m Q q => ⟨?_, q⟩) ?_ ⟨_, bls _, br (fun h4 => ?_) fun h4 => ?_⟩
        · rw [cut_to1] at m
          exact hk d (List.mem_of_mem_take m)
        · show _ ≤ _
          rw [cut_to1, List.length_take, List.length_nil]
          omega
        · rw [allmap, cut_to1] at h4
          rw [h4, Bool.true_and] at h
          refine compL_map (fun d => .bl (plainD d)) (cutL ds (some 1) none) [] (fun d m Q q => ⟨?_, q⟩) ?_ ⟨_, bls _, ?_⟩
          · rw [cut_from1] at m
            exact hk d (List.mem_of_mem_drop m)
          · show _ ≤ _
            rw [cut_from1, List.length_drop, List.length_nil]
            omega
          · rw [allmap, cut_from1]
            exact h
        · rw [allmap, cut_to1] at h4
          rw [h4, Bool.false_and] at h
          exact h
    | ref _ => cases hx
    | exc _ => cases hx
    | val _ => cases hx
    | _ => exact ⟨false, rfl, br_t (br_t h)⟩
theorem spl_le {Sp : List Nat} : ∀ (l : List Nat) (k : Nat) (acc : List Nat), ∀ q ∈ TL.spl Sp k acc l, q.length ≤ acc.length + l.length
  | [], k, acc, q, m => by
    rw [TL.spl_nil] at m
    rw [List.mem_singleton.mp m]
    exact Nat.le_add_right _ _
  | c :: r, 0, acc, q, m => by
    have m : q ∈ (if TL.pre Sp (c :: r) = true then acc :: TL.spl Sp (Sp.length - 1) [] r else TL.spl Sp 0 (acc ++ [c]) r) := m
    rw [List.length_cons]
    split at m
    · rcases List.mem_cons.mp m with e | m
      · rw [e]; omega
      · have := spl_le r _ [] q m
        rw [List.length_nil] at this
        omega
    · have := spl_le r _ _ q m
      rw [List.length_append, List.length_cons, List.length_nil] at this
      omega
  | c :: r, k + 1, acc, q, m => by
    have := spl_le r k acc q m
    rw [List.length_cons]
    omega
abbrev tlS (s : Str) : List Nat := s.cps.toList
theorem S_of (s : Str) : SX.S (tlS s) = s := SX.S_tl s
theorem dotS : ("." : Str) = SX.S [46] := rfl
theorem cut_len (s : Str) (lo hi : Option Int) : (cutS s lo hi).length ≤ s.length := by
  unfold cutS
  show (List.toArray _).size ≤ s.cps.size
  rw [List.size_toArray, List.length_take, List.length_drop, Array.length_toList]
  omega
theorem parts_ok {s : Str} (h : s.length ≤ 50000) : okD (partsOf s) = true := by
  show okDs _ = true
  refine okDs_of fun d m => ?_
  obtain ⟨p, hp, rfl⟩ := List.mem_map.mp m
  have e : Txt.split (cutS s none (some (-1))) ("." : Str) = (TL.spl [46] 0 [] (cutS s none (some (-1))).cps.toList).map SX.S := by
    rw [← SX.split_S (by decide) (by decide), ← dotS, SX.S_tl]
  rw [e] at hp
  obtain ⟨q, hq, rfl⟩ := List.mem_map.mp hp
  have h1 := spl_le _ _ _ q hq
  have h2 := cut_len s none (some (-1))
  have h3 : (cutS s none (some (-1))).cps.toList.length = (cutS s none (some (-1))).length := Array.length_toList
  refine decide_eq_true ?_
  rw [SX.S_len]
  rw [List.length_nil] at h1
  omega
theorem name_ex {x : D} (h : nameD x = true) : ∃ ds, x = .tup ds ∧ ds.length ≤ 6 ∧ (ds.take 1).all labelD = true ∧ (ds.drop 1).all plainD = true := by
  cases x with
  | tup ds =>
    have h : (decide (ds.length ≤ 6) && ((ds.take 1).all labelD && (ds.drop 1).all plainD)) = true := h
    rw [Bool.and_eq_true, Bool.and_eq_true] at h
    exact ⟨ds, rfl, of_decide_eq_true h.1, h.2.1, h.2.2⟩
  | _ => cases h
theorem label_str {d : D} (h : labelD d = true) : ∃ s, d = .str s ∧ (plainS s = true ∨ s = ("*" : Str)) := by
  cases d with
  | str s =>
    refine ⟨s, rfl, ?_⟩
    have h : (plainS s || (s == ("*" : Str))) = true := h
    rcases Bool.or_eq_true_iff.mp h with h | h
    · exact .inl h
    · exact .inr (eq_of_beq h)
  | _ => cases h
theorem plain_str {d : D} (h : plainD d = true) : ∃ s, d = .str s ∧ plainS s = true := by
  cases d with
  | str s => exact ⟨s, rfl, h⟩
  | _ => cases h
theorem name_lbl {ds : List D} (h1 : (ds.take 1).all labelD = true) (h2 : (ds.drop 1).all plainD = true) : ∀ d ∈ ds, ∃ s, d = .str s ∧ (plainS s = true ∨ s = ("*" : Str)) := fun d m => by
  rw [← List.take_append_drop 1 ds] at m
  rcases List.mem_append.mp m with m | m
  · exact label_str (List.all_eq_true.mp h1 d m)
  · obtain ⟨s, e, h⟩ := plain_str (List.all_eq_true.mp h2 d m)
    exact ⟨s, e, .inl h⟩
theorem plain_len {s : Str} (h : plainS s = true) : 1 ≤ s.length ∧ s.length ≤ 8 := by
  unfold plainS at h
  rw [Bool.and_eq_true, Bool.and_eq_true] at h
  have h1 := of_decide_eq_true h.1.1
  have h2 := of_decide_eq_true h.1.2
  omega
theorem lbl_len {s : Str} (h : plainS s = true ∨ s = ("*" : Str)) : 1 ≤ s.length ∧ s.length ≤ 8 := by
  rcases h with h | rfl
  · exact plain_len h
  · decide
theorem lbl_dot {s : Str} (h : plainS s = true ∨ s = ("*" : Str)) : 46 ∉ s.cps.toList := by
  rcases h with h | rfl
  · unfold plainS at h
    rw [Bool.and_eq_true] at h
    intro m
    have := List.all_eq_true.mp h.2 46 m
    revert this
    decide
  · decide
theorem name_ck {x : D} (h : nameD x = true) : ckN 1 x := by
  obtain ⟨ds, rfl, _, h1, h2⟩ := name_ex h
  refine cn_tup fun d m => ?_
  obtain ⟨s, rfl, _⟩ := name_lbl h1 h2 d m
  exact cn_str 0 s
theorem name_ok {x : D} (h : nameD x = true) : okD x = true := by
  obtain ⟨ds, rfl, _, h1, h2⟩ := name_ex h
  refine okDs_of fun d m => ?_
  obtain ⟨s, rfl, h⟩ := name_lbl h1 h2 d m
  have := lbl_len h
  exact decide_eq_true (by omega)
theorem nb {b : Bool} (h : (!b) = true) : b = false := by cases b <;> first | rfl | cases h
theorem nbf {b : Bool} (h : (!b) = false) : b = true := by cases b <;> first | rfl | cases h
theorem strs_map (g : D → Str) (ds : List D) : strsOf (ds.map fun d => .str (g d)) = some (ds.map g) := by
  rw [← strsOf_map, List.map_map]
  rfl
theorem sum_le {f : D → Nat} {n : Nat} : ∀ {ds : List D}, (∀ d ∈ ds, f d ≤ n) → (ds.map f).sum ≤ ds.length * n
  | [], _ => Nat.zero_le _
  | d :: ds, h => by
    rw [List.map_cons, List.sum_cons, List.length_cons, Nat.succ_mul]
    have h1 := h d List.mem_cons_self
    have h2 := sum_le (ds := ds) fun x m => h x (List.mem_cons_of_mem _ m)
    omega
theorem str_app_len (a b : Str) : (a ++ b).length = a.length + b.length := by
  show (a.cps ++ b.cps).size = _
  exact Array.size_append
theorem text_join {ds : List D} {Q : D → Sto → Prop} (hn : nameD (.tup ds) = true) (hne : ds ≠ []) (q : Q (.str (textS ds)) S) :
    dM1 fJoin (dC (.str ("" : Str))) (dFz (dComp (dWt (dVar 0)) (dgName 1) (dYes) (dOp fAdd (dVar 1) (dC (.str ("." : Str)))) [1])) (startG 2 [.tup ds]) S Q := by
  obtain ⟨ds', e, hl, h1, h2⟩ := name_ex hn
  cases e
  have hb := name_lbl h1 h2
  refine compL_map (fun d => .str (lblT d ++ ("." : Str))) ds [] (fun d m Q q => ?_) ?_ ⟨_, strs_map _ ds, ?_, ?_⟩
  · obtain ⟨s, rfl, hs⟩ := hb d m
    have := lbl_len hs
    refine ⟨?_, q⟩
    show s.length + 1 ≤ 100000
    omega
  · show _ ≤ _
    rw [List.length_nil]
    omega
  · have h3 : ((ds.map fun d => lblT d ++ ("." : Str)).map (·.length)).sum ≤ ds.length * 9 := by
      rw [List.map_map]
      refine sum_le fun d m => ?_
      obtain ⟨s, rfl, hs⟩ := hb d m
      have := lbl_len hs
      show (s ++ ("." : Str)).length ≤ 9
      rw [str_app_len]
      show s.length + 1 ≤ 9
      omega
    have h4 : (ds.map fun d => lblT d ++ ("." : Str)).length * ("" : Str).length = 0 := rfl
    rw [h4]
    omega
  · unfold textS at q
    rw [if_neg (by cases ds <;> first | exact absurd rfl hne | exact Bool.false_ne_true)] at q
    exact q
theorem cut_sub {α : Type} {xs : List α} {lo hi : Option Int} {x : α} (h : x ∈ cutL xs lo hi) : x ∈ xs := List.mem_of_mem_drop (List.mem_of_mem_take h)
theorem name_cut {ds : List D} (hn : nameD (.tup ds) = true) (lo hi : Option Int) : ckN 1 (.tup (cutL ds lo hi)) := by
  obtain ⟨ds', e, hl, h1, h2⟩ := name_ex hn
  cases e
  refine cn_tup fun d m => ?_
  obtain ⟨s, rfl, _⟩ := name_lbl h1 h2 d (cut_sub m)
  exact cn_str 0 s
theorem pure_signs : ∀ {ds : List D}, g_signs ds S P EP → t_signs K c_BadRecord c_HouseError c_BadName c_BadLine c_BadLetter c_BadChange c_BadZone c_BadTurn c_BadRow k_KINDS (EE EP) (DDs P) (startG 0 ds) S
  | [], h => h
  | _ :: _, h => h.elim
end
end DL.K03
namespace DL.K03
open PySem PySem.Spec PyProof.Rows L2
section
variable {K : PySem.W.Frag} {c_BadRecord c_HouseError c_BadName c_BadLine c_BadLetter c_BadChange c_BadZone c_BadTurn c_BadRow k_KINDS : Addr} {S : Sto} {P : W → Sto → Prop} {EP : Value → Sto → Prop}
/-! ### the draws -/
theorem pure_cell_at : ∀ {ds : List D}, g_cell_at ds S P EP → t_cell_at K c_BadRecord c_HouseError c_BadName c_BadLine c_BadLetter c_BadChange c_BadZone c_BadTurn c_BadRow k_KINDS (EE EP) (DDs P) (startG 2 ds) S := fun {ds} h => by
  unfold g_cell_at at h
  split at h
  · rename_i cs k
    obtain ⟨⟨hc, hk⟩, h⟩ := h
    refine br (fun h1 => ?_) fun h1 => h 0
    obtain ⟨d, e, m, _⟩ := at_ex (xs := cs) hk (of_decide_eq_true h1)
    obtain ⟨i, rfl⟩ := hc d m
    exact ⟨_, e, h i⟩
  · exact h.elim
theorem pure_next : ∀ {ds : List D}, g_next ds S P EP → t_next K c_BadRecord c_HouseError c_BadName c_BadLine c_BadLetter c_BadChange c_BadZone c_BadTurn c_BadRow k_KINDS (EE EP) (DDs P) (startG 3 ds) S := fun {ds} h => by
  unfold g_next at h
  split at h
  · obtain ⟨n, ⟨cs, hc, hl, j, h1, h2, t, rfl⟩, h4, h⟩ := h
    have hm : (0 : Int) < (if (cs.length : Int) > 1 then (cs.length : Int) else 1) := by
      split <;> omega
    refine ⟨_, rfl, _, rfl, _, rfl, _, rfl, _, rfl, _, rfl, _, rfl, _, rfl, _, rfl, hm, ⟨hc, Int.emod_nonneg _ (by omega)⟩, fun i => ⟨cmul_r, cmul_l (by omega) (by omega), cmul_r, (by decide : (0 : Int) < 2147483647), cdiv, ?_⟩⟩
    refine h _ _ ⟨cs, hc, hl, j + 1, by omega, by omega, t, rfl⟩ ?_ ?_
    · have := Int.emod_nonneg (i * 48271 + (j + 1) * (j + 1) * 69621) (b := 2147483647) (by decide)
      omega
    · have := Int.emod_lt_of_pos (i * 48271 + (j + 1) * (j + 1) * 69621) (b := 2147483647) (by decide)
      omega
  · exact h.elim
/-- a sign of the row -/
theorem sign_at {i : Int} (h0 : 0 ≤ i) (h1 : i < 37) : ∃ c, atI cSIGNS.cps.toList i = some c ∧ signOk c = true := by
  obtain ⟨c, e, m, _⟩ := at_ex (xs := cSIGNS.cps.toList) h0 (by
    have : cSIGNS.cps.toList.length = 37 := by decide
    rw [this]
    exact h1)
  exact ⟨c, e, decide_eq_true m⟩
theorem mod_rng (x : Int) {m : Int} (h : 0 < m) : 0 ≤ x % m ∧ x % m < m := ⟨Int.emod_nonneg _ (by omega), Int.emod_lt_of_pos _ h⟩
theorem pure_label : ∀ {ds : List D}, g_label ds S P EP → t_label K c_BadRecord c_HouseError c_BadName c_BadLine c_BadLetter c_BadChange c_BadZone c_BadTurn c_BadRow k_KINDS (EE EP) (DDs P) (startG 4 ds) S := fun {ds} h => by
  unfold g_label at h
  split at h
  · rename_i n
    refine ⟨by decide, by decide, compL_inv (fun k acc S' => S' = S ∧ ∃ cs : List Nat, acc = cs.map sg1 ∧ cs.length = k ∧ cs.all signOk = true) (intsFrom 0 8) 0 [] S ⟨rfl, [], rfl, rfl, rfl⟩ (fun x m k acc S' Q hI q => ?_) (by decide : (8 : Nat) ≤ 100000) fun acc' S' hl hI => ?_⟩
    · obtain ⟨i, rfl, h0, h8⟩ := ints_mem m
      obtain ⟨rfl, cs, rfl, hk, ha⟩ := hI
      have hr := mod_rng (n / 11 + 17 * i * i + 5 * i) (m := 37) (by decide)
      obtain ⟨c, e, hc⟩ := sign_at hr.1 hr.2
      refine ⟨cdiv, cmul_l, cmul_r (by omega) (by omega), cmul_l, (by decide : (0 : Int) < 37), (by decide : (37 : Nat) ≤ 100000), c, e, q _ _ ⟨rfl, cs ++ [c], ?_, ?_, ?_⟩⟩
      · rw [List.map_append]
        rfl
      · rw [List.length_append, hk]
        rfl
      · rw [List.all_append, ha, List.all_cons, hc]
        rfl
    · obtain ⟨rfl, cs, rfl, hk, ha⟩ := hI
      refine ⟨_, sg_strs cs, ?_, ?_⟩
      · rw [sg_sum]
        have : (List.map (fun c => (⟨#[c]⟩ : Str)) cs).length * ("" : Str).length = 0 := rfl
        rw [this, hk]
        decide
      · rw [sg_join]
        refine h _ ?_ ha
        rw [SX.S_len, hk]
        rfl
  · exact h.elim
/-! ### labels -/
theorem tl_cut (s : Str) (lo hi : Option Int) : (cutS s lo hi).cps.toList = cutL s.cps.toList lo hi := rfl
theorem tl_app (a b : Str) : (a ++ b).cps.toList = a.cps.toList ++ b.cps.toList := TL.tl_append a b
theorem tl_len (a : Str) : a.length = a.cps.toList.length := rfl
theorem plain_of {s : Str} (h1 : 1 ≤ s.length) (h2 : s.length ≤ 8) (h : ∀ c ∈ s.cps.toList, signOk c = true) : plainS s = true := by
  unfold plainS
  rw [decide_eq_true (show 1 ≤ (s.length : Int) by omega), decide_eq_true (show (s.length : Int) ≤ 8 by omega), List.all_eq_true.mpr h]
  rfl
theorem plain_signs {s : Str} (h : plainS s = true) : ∀ c ∈ s.cps.toList, signOk c = true := by
  unfold plainS at h
  rw [Bool.and_eq_true] at h
  exact List.all_eq_true.mp h.2
theorem mid_plain {b : Str} {c : Nat} {i z : Int} (hb : b.length = 8) (hs : b.cps.toList.all signOk = true) (hc : signOk c = true) (h0 : 0 ≤ i) (h1 : i < z) (h2 : z ≤ 8) :
    plainS (cutS b none (some i) ++ ⟨#[c]⟩ ++ cutS b (some (i + 1)) (some z)) = true := by
  have hb' : b.cps.toList.length = 8 := hb
  have hl : (cutS b none (some i) ++ ⟨#[c]⟩ ++ cutS b (some (i + 1)) (some z)).length = z.toNat := by
    rw [tl_len, tl_app, tl_app, tl_cut, tl_cut, List.length_append, List.length_append, cutL_len, cutL_len, sIx_pos h0, sIx_pos (by omega), sIx_pos (by omega), HT.sIx_none, hb']
    show _ + 1 + _ = _
    omega
  refine plain_of (by omega) (by omega) fun d m => ?_
  rw [tl_app, tl_app] at m
  rcases List.mem_append.mp m with m | m
  · rcases List.mem_append.mp m with m | m
    · exact List.all_eq_true.mp hs d (cut_sub m)
    · rw [List.mem_singleton.mp m]
      exact hc
  · exact List.all_eq_true.mp hs d (cut_sub m)
theorem size_mem {r : Int} {d : D} (m : d ∈ [D.int 1, .int 8, .int (1 + r / 5 % 8), .int 3, .int 2]) : ∃ z : Int, d = .int z ∧ 1 ≤ z ∧ z ≤ 8 := by
  have hr := mod_rng (r / 5) (m := 8) (by decide)
  simp only [List.mem_cons, List.not_mem_nil, or_false] at m
  rcases m with rfl | rfl | rfl | rfl | rfl
  · exact ⟨_, rfl, by decide, by decide⟩
  · exact ⟨_, rfl, by decide, by decide⟩
  · exact ⟨_, rfl, by omega, by omega⟩
  · exact ⟨_, rfl, by decide, by decide⟩
  · exact ⟨_, rfl, by decide, by decide⟩
theorem next_g {n : Int} (hD : Dr n S) (hn : n < 1000000000) {P : W → Sto → Prop} (h : ∀ r S', Dr (n + 1) S' → 0 ≤ r → r < 268435456 → P (.d (.int r)) S') : g_next [.ref 0] S P EP := ⟨n, hD, hn, h⟩
theorem pure_labels : ∀ {ds : List D}, g_labels ds S P EP → t_labels K c_BadRecord c_HouseError c_BadName c_BadLine c_BadLetter c_BadChange c_BadZone c_BadTurn c_BadRow k_KINDS (EE EP) (DDs P) (startG 8 ds) S := fun {ds} h => by
  unfold g_labels at h
  split at h
  · obtain ⟨n, hD, hn, h⟩ := h
    refine next_g (EP := EP) hD (by omega) fun r S1 hD1 h0 h1 => ?_
    intro b hb hbs
    refine ⟨Nat.zero_le _, by decide, by decide, ?_⟩
    refine forL_inv (fun r Γ S => ∃ fs t3 t4 t5 t6 t7, Γ = [some (.d (.ref 0)), some (.d (.str b)), some (.own fs), t3, t4, t5, t6, t7] ∧ (∀ d ∈ fs, plainD d = true) ∧ fs.length + r.length = 3 ∧ Dr (n + 1 + fs.length) S) ?_ ?_ (intsFrom 0 3) _ S1 ⟨[], none, none, none, none, none, rfl, (fun _ m => by cases m), rfl, by
      show Dr (n + 1 + ((0 : Nat) : Int)) S1
      rw [show n + 1 + ((0 : Nat) : Int) = n + 1 by omega]
      exact hD1⟩
    · rintro Γ S2 ⟨fs, t3, t4, t5, t6, t7, rfl, hf, hl, hD2⟩
      match fs, hl, hf with
      | [d0, d1, d2], _, hf =>
        obtain ⟨s0, rfl, p0⟩ := plain_str (hf d0 List.mem_cons_self)
        have l0 := plain_len p0
        refine next_g (EP := EP) hD2 (by show n + 1 + 3 < _; omega) fun r4 S3 hD3 hr0 hr1 => ?_
        have hD3 : Dr (n + 5) S3 := by
          rw [show n + 5 = n + 1 + 3 + 1 by omega]
          exact hD3
        have hr := mod_rng (r4 / 7) (m := 37) (by decide)
        obtain ⟨c, ec, hc⟩ := sign_at hr.1 hr.2
        refine ⟨cdiv, (by decide : (0 : Int) < 37), (by decide : (37 : Nat) ≤ 100000), c, ec, ?_⟩
        have fin : ∀ s3 : Str, plainS s3 = true → sz (3 + 1) ∧ dRet (dFz (dOpF fCat (dVarB 2) (dFz (dLst (dCons (dOp fAdd (dOp fAdd (dSl (dOp fIx (dVarB 2) (dOp fMod (dVar 4) (dC (.int 2)))) (dP0) (dP1 (dC (.int 6)))) (dC (.str ("-" : Str)))) (dOp fMul (dVar 5) (dOp fMod (dOp fDiv (dVar 4) (dC (.int 2))) (dC (.int 2))))) (dNil)))))) (DDs P)
            [some (.d (.ref 0)), some (.d (.str b)), some (.own [.str s0, d1, d2, .str s3]), t3, some (.d (.int r4)), some (.d (.str ⟨#[c]⟩)), t6, t7] S3 := fun s3 p3 => by
          refine ⟨(by decide : (4 : Nat) ≤ 100000), (by decide : (0 : Int) < 2), ?_⟩
          have hq := mod_rng r4 (m := 2) (by decide)
          have hx : ∃ s, atI [D.str s0, d1, d2, .str s3] (r4 % 2) = some (.str s) ∧ plainS s = true := by
            obtain ⟨d, e, m, _⟩ := at_ex (xs := [D.str s0, d1, d2, .str s3]) hq.1 (by show _ < (4 : Int); omega)
            have pd : plainD d = true := by
              simp only [List.mem_cons, List.not_mem_nil, or_false] at m
              rcases m with rfl | rfl | rfl | rfl
              · exact p0
              · exact hf _ (by simp)
              · exact hf _ (by simp)
              · exact p3
            obtain ⟨s, rfl, ps⟩ := plain_str pd
            exact ⟨s, e, ps⟩
          obtain ⟨s, es, ps⟩ := hx
          have ls := plain_len ps
          have lc : (cutS s none (some 6)).length ≤ 6 := by
            rw [tl_len, tl_cut, cutL_len, HT.sIx_none, sIx_pos (by decide)]
            show min (min 6 _ - 0) _ ≤ 6
            omega
          have hw := mod_rng (r4 / 2) (m := 2) (by decide)
          have lm : (strMul ⟨#[c]⟩ (r4 / 2 % 2)).length ≤ 1 := by
            rw [strMul_length]
            show 1 * _ ≤ 1
            omega
          refine ⟨_, es, (show s.length ≤ 100000 by omega), (show _ + 1 ≤ 100000 by omega), cdiv, (by decide : (0 : Int) < 2), ⟨by omega, by omega, ?_⟩, ?_, (by decide : (1 : Nat) ≤ 100000), (by decide : (5 : Nat) ≤ 100000), ?_⟩
          · show 1 * _ ≤ _
            omega
          · show _ ≤ 100000
            rw [str_app_len]
            show _ + 1 + _ ≤ _
            omega
          · refine h _ _ ⟨_, _, _, _, _, rfl, p0, hf _ (by simp), hf _ (by simp), p3, ?_⟩ hD3
            refine plain_of ?_ ?_ fun x m => ?_
            · rw [str_app_len, str_app_len]
              show 1 ≤ _ + 1 + _
              omega
            · rw [str_app_len, str_app_len]
              show _ + 1 + _ ≤ 8
              omega
            · rw [tl_app, tl_app] at m
              rcases List.mem_append.mp m with m | m
              · rcases List.mem_append.mp m with m | m
                · exact plain_signs ps x (cut_sub m)
                · rw [List.mem_singleton.mp m]
                  decide
              · have m : x ∈ (List.replicate (r4 / 2 % 2).toNat [c]).flatten := m
                obtain ⟨l, hl, hx⟩ := List.mem_flatten.mp m
                rw [(List.mem_replicate.mp hl).2] at hx
                rw [List.mem_singleton.mp hx]
                exact hc
        refine ⟨.str s0, rfl, (show s0.length ≤ 100000 by omega), br (fun h8 => ?_) fun h8 => ?_⟩
        · have h8 : (s0.length : Int) < 8 := of_decide_eq_true h8
          refine ⟨.str s0, rfl, (show 1 + s0.length ≤ 100000 by omega), (show _ ≤ 100000 by rw [str_app_len]; show 1 + _ ≤ _; omega), fin _ ?_⟩
          have hl : (cutS ((⟨#[c]⟩ : Str) ++ s0) none (some 8)).length = min 8 (1 + s0.length) := by
            rw [tl_len, tl_cut, cutL_len, HT.sIx_none, sIx_pos (by decide), tl_app, List.length_append]
            show min (min 8 (1 + s0.length) - 0) (1 + s0.length - 0) = _
            omega
          refine plain_of (by omega) (by omega) fun x m => ?_
          rw [tl_cut] at m
          have m := cut_sub m
          rw [tl_app] at m
          rcases List.mem_append.mp m with m | m
          · rw [List.mem_singleton.mp m]
            exact hc
          · exact plain_signs p0 x m
        · have h8 : ¬ (s0.length : Int) < 8 := of_decide_eq_false h8
          refine ⟨.str s0, rfl, (show s0.length ≤ 100000 by omega), fin _ ?_⟩
          have hl : (cutS s0 (some 1) none).length = s0.length - 1 := by
            rw [tl_len, tl_cut, cutL_len, HT.sIx_none, sIx_pos (by decide)]
            show min (s0.length - min 1 s0.length) (s0.length - min 1 s0.length) = _
            omega
          exact plain_of (by omega) (by omega) fun x m => plain_signs p0 x (cut_sub (by rw [tl_cut] at m; exact m))
    · rintro x r5 Γ S2 nx hnx ⟨fs, t3, t4, t5, t6, t7, rfl, hf, hl, hD2⟩
      rw [List.length_cons] at hl
      refine next_g (EP := EP) hD2 (by omega) fun r S3 hD3 hr0 hr1 => ?_
      have hq := mod_rng r (m := 5) (by decide)
      obtain ⟨d, e, m, _⟩ := at_ex (xs := [D.int 1, .int 8, .int (1 + r / 5 % 8), .int 3, .int 2]) hq.1 hq.2
      obtain ⟨z, rfl, z1, z8⟩ := size_mem m
      have hr := mod_rng (r / 320) (m := 37) (by decide)
      obtain ⟨c, ec, hc⟩ := sign_at hr.1 hr.2
      have hi := mod_rng (r / 40) (m := z) (by omega)
      have mp := mid_plain hb hbs hc hi.1 hi.2 z8
      have c1 := cut_len b none (some (r / 40 % z))
      have c2 := cut_len b (some (r / 40 % z + 1)) (some z)
      refine ⟨cdiv, (by decide : (0 : Int) < 8), (by decide : (5 : Nat) ≤ 100000), (by decide : (0 : Int) < 5), _, e, cdiv, (show 0 < z by omega), cdiv, (by decide : (0 : Int) < 37), (by decide : (37 : Nat) ≤ 100000), c, ec,
        (show b.length ≤ 100000 by omega), (show _ + 1 ≤ 100000 by omega), (show b.length ≤ 100000 by omega), (show _ ≤ 100000 by rw [str_app_len]; show _ + 1 + _ ≤ _; omega), (show _ ≤ 100000 by omega), ?_⟩
      refine hnx _ _ ⟨fs ++ [.str (cutS b none (some (r / 40 % z)) ++ ⟨#[c]⟩ ++ cutS b (some (r / 40 % z + 1)) (some z))], _, _, _, _, _, rfl, fun d m => ?_, ?_, ?_⟩
      · rcases List.mem_append.mp m with m | m
        · exact hf d m
        · rw [List.mem_singleton.mp m]
          exact mp
      · rw [List.length_append, List.length_cons, List.length_nil]
        omega
      · rw [List.length_append]
        show Dr (n + 1 + ((fs.length + 1 : Nat) : Int)) S3
        rw [show n + 1 + ((fs.length + 1 : Nat) : Int) = n + 1 + fs.length + 1 by omega]
        exact hD3
  · exact h.elim
end
end DL.K03
namespace DL.K03
open PySem PySem.Spec PyProof.Rows L2
section
variable {K : PySem.W.Frag} {c_BadRecord c_HouseError c_BadName c_BadLine c_BadLetter c_BadChange c_BadZone c_BadTurn c_BadRow k_KINDS : Addr} {S : Sto} {P : W → Sto → Prop} {EP : Value → Sto → Prop}
theorem many_mem {d : D} (m : d ∈ [D.int 0, .int 1, .int 2, .int 3, .int 4, .int 6, .int 2]) : ∃ k : Nat, d = .int k ∧ k ≤ 6 := by
  simp only [List.mem_cons, List.not_mem_nil, or_false] at m
  rcases m with rfl | rfl | rfl | rfl | rfl | rfl | rfl
  · exact ⟨0, rfl, by decide⟩
  · exact ⟨1, rfl, by decide⟩
  · exact ⟨2, rfl, by decide⟩
  · exact ⟨3, rfl, by decide⟩
  · exact ⟨4, rfl, by decide⟩
  · exact ⟨6, rfl, by decide⟩
  · exact ⟨2, rfl, by decide⟩
theorem Dr.mono {n m : Int} (h : Dr n S) (hm : n ≤ m) : Dr m S := by
  obtain ⟨cs, h1, h2, j, h3, h4, h5⟩ := h
  exact ⟨cs, h1, h2, j, h3, by omega, h5⟩
theorem Dr.app {n : Int} (h : Dr n S) (t : Sto) : Dr n (S ++ t) := by
  obtain ⟨cs, h1, h2, j, h3, h4, u, rfl⟩ := h
  exact ⟨cs, h1, h2, j, h3, h4, u ++ t, rfl⟩
theorem plain_label {d : D} (h : plainD d = true) : labelD d = true := by
  cases d with
  | str s =>
    show (plainS s || _) = true
    rw [show plainS s = true from h]
    rfl
  | _ => cases h
theorem name_of_plain {ds : List D} (hl : ds.length ≤ 6) (h : ∀ d ∈ ds, plainD d = true) : nameD (.tup ds) = true := by
  show (decide (ds.length ≤ 6) && ((ds.take 1).all labelD && (ds.drop 1).all plainD)) = true
  rw [decide_eq_true hl, List.all_eq_true.mpr fun d m => plain_label (h d (List.mem_of_mem_take m)), List.all_eq_true.mpr fun d m => h d (List.mem_of_mem_drop m)]
  rfl
theorem cn_strs {ds : List D} (h : ∀ d ∈ ds, plainD d = true) : ckN 1 (.lst ds) := cn_lst fun d m => by
  obtain ⟨s, rfl, _⟩ := plain_str (h d m)
  exact cn_str 0 s
theorem ck_nil : cmpOk (.lst []) := (cn_lst (n := 0) (fun _ m => by cases m)).ck
theorem ck_unit : cmpOk (.tup []) := (cn_tup (n := 0) (fun _ m => by cases m)).ck
theorem pure_name : ∀ {ds : List D}, g_name ds S P EP → t_name K c_BadRecord c_HouseError c_BadName c_BadLine c_BadLetter c_BadChange c_BadZone c_BadTurn c_BadRow k_KINDS (EE EP) (DDs P) (startG 6 ds) S := fun {ds} h => by
  unfold g_name at h
  split at h
  · rename_i l
    obtain ⟨n, hD, hn, ⟨a, b, c, e, f, rfl, pa, pb, pc, pe, pf⟩, h⟩ := h
    refine next_g (EP := EP) hD (by omega) fun r S1 hD1 h0 h1 => ?_
    have hq := mod_rng r (m := 7) (by decide)
    obtain ⟨d, ed, m, _⟩ := at_ex (xs := [D.int 0, .int 1, .int 2, .int 3, .int 4, .int 6, .int 2]) hq.1 hq.2
    obtain ⟨k, rfl, hk⟩ := many_mem m
    refine ⟨(by decide : (7 : Nat) ≤ 100000), (by decide : (0 : Int) < 7), _, ed, (show -(2 ^ 62) ≤ (k : Int) by omega), (show (k : Int) < 2 ^ 62 by omega), ?_⟩
    refine compL_invN 6 (fun j acc S' => acc.length = j ∧ (∀ d ∈ acc, plainD d = true) ∧ Dr (n + 1 + j) S') (intsFrom 0 (k : Int).toNat) 0 [] S1 ⟨rfl, (fun _ m => by cases m), by
      show Dr (n + 1 + ((0 : Nat) : Int)) S1
      rw [show n + 1 + ((0 : Nat) : Int) = n + 1 by omega]
      exact hD1⟩ (by rw [ints_len, Int.toNat_natCast]; omega) (fun x mx j acc S' Q hj6 hI q => ?_) ?_ fun fs S2 hI => ?_
    · obtain ⟨hj, ha, hD2⟩ := hI
      refine next_g (EP := fun c S2 => False) hD2 (by omega) fun r5 S3 hD3 g0 g1 => ?_
      have hq5 := mod_rng r5 (m := 5) (by decide)
      obtain ⟨d, ed, md, _⟩ := at_ex (xs := [a, b, c, e, f]) hq5.1 hq5.2
      have pd : plainD d = true := by
        simp only [List.mem_cons, List.not_mem_nil, or_false] at md
        rcases md with rfl | rfl | rfl | rfl | rfl <;> assumption
      refine ⟨(by decide : (0 : Int) < 5), _, ed, q _ _ ⟨by rw [List.length_append, hj]; rfl, fun z mz => ?_, ?_⟩⟩
      · rcases List.mem_append.mp mz with mz | mz
        · exact ha z mz
        · rw [List.mem_singleton.mp mz]
          exact pd
      · rw [show n + 1 + ((j + 1 : Nat) : Int) = n + 1 + j + 1 by omega]
        exact hD3
    · show _ ≤ _
      rw [ints_len, List.length_nil, Int.toNat_natCast]
      omega
    · obtain ⟨hj, ha, hD2⟩ := hI
      rw [ints_len, Int.toNat_natCast] at hj hD2
      have hl6 : fs.length ≤ 6 := by omega
      have hD7 : Dr (n + 7) S2 := hD2.mono (by omega)
      refine ⟨Nat.zero_le _, (cn_strs ha).ck, ck_nil, br (fun he => ⟨cdiv, (by decide : (0 : Int) < 5), ck_int _, ck_int _, br (fun hz => ?_) fun hz => ?_⟩) fun he => ?_⟩
      · match fs, ha, hl6, he with
        | [], _, _, he => cases he
        | d :: ds, ha, hl6, _ =>
          refine ⟨0, rfl, 0, ?_, ?_⟩
          · show ixN (ds.length + 1) (0 : Int) = some 0
            unfold ixN
            rw [if_pos (by omega), if_pos (by omega)]
            rfl
          · refine h _ _ ?_ hD7
            show (decide (ds.length + 1 ≤ 6) && (([D.str ("*" : Str)].all labelD) && ds.all plainD)) = true
            rw [decide_eq_true (show ds.length + 1 ≤ 6 from hl6), List.all_eq_true.mpr fun x m => ha x (List.mem_cons_of_mem _ m)]
            decide
      · exact h _ _ (name_of_plain hl6 ha) hD7
      · exact br_f (h _ _ (name_of_plain hl6 ha) hD7)
  · exact h.elim

/-! ### the law's own words -/
theorem eq_nilL (ds : List D) : eqD (.lst ds) (.lst []) = ds.isEmpty := by cases ds <;> rfl
end
end DL.K03
namespace DL.K03
open PySem PySem.Spec PyProof.Rows L2
section
/-! ### names in order -/
def nlt (a b : D) : Bool := PySem.W.dataLt (py (rankD a)) (py (rankD b))
theorem nlt_leK (a b : D) : leK rankD a b = !nlt b a := rfl
theorem nlt_swo : SrtO.Swo nlt where
  asym := fun x y h => by
    cases e : nlt y x with
    | false => rfl
    | true =>
      have t := (PyProof.Rows.listOrd PyProof.Rows.itemOrd).trans _ _ _ h e
      rw [(PyProof.Rows.listOrd PyProof.Rows.itemOrd).irrefl] at t
      cases t
  tr := fun x y z h1 h2 => by
    cases e : nlt z x with
    | false => rfl
    | true =>
      rcases (PyProof.Rows.listOrd PyProof.Rows.itemOrd).negTrans _ (PySem.W.keyToks (py (rankD y))) _ e with t | t
      · exact t.symm.trans h2
      · exact t.symm.trans h1
theorem sortD_perm (kf : D → D) (ds : List D) : (sortD kf ds).Perm ds := List.mergeSort_perm ds _
theorem sortD_srt (ds : List D) : SrtO.Srtd nlt (sortD rankD ds) := by
  have h := PySem.W.sort_pairwise (le := leK rankD) (PySem.W.sortLe_total (PyProof.Rows.listOrd PyProof.Rows.itemOrd) false fun d => PySem.W.keyToks (py (rankD d))) ds
  refine List.Pairwise.imp (fun {a b} e => ?_) h
  rw [nlt_leK] at e
  cases z : nlt b a with
  | false => rfl
  | true =>
    rw [z] at e
    cases e
theorem py_strs : ∀ xs : List Str, py (.tup (xs.map D.str)) = .tuple (xs.map PyData.str) := fun xs => by
  rw [py, pyAll_map, List.map_map]
  congr 1
theorem str_eq {a b : Str} : PyData.eqv (.str a) (.str b) = decide (a = b) := by
  rw [PyData.eqv]
  by_cases h : a = b
  · subst h
    rw [decide_eq_true rfl]
    exact beq_self_eq_true a
  · rw [decide_eq_false h]
    exact beq_eq_false_iff_ne.mpr h
theorem lt_rows : ∀ xs ys : List Str, PyProof.Rows.lexLt PyProof.Rows.itemOrd (PySem.W.keyToksAll (xs.map PyData.str)) (PySem.W.keyToksAll (ys.map PyData.str)) = sLex xs ys
  | [], [] => by rw [sLex]; exact PyProof.Rows.lex_irrefl _
  | [], y :: ys => by
    rw [sLex]
    show PyProof.Rows.lexLt PyProof.Rows.itemOrd (PySem.W.keyToksAll []) (PySem.W.keyToksAll (.str y :: ys.map PyData.str)) = true
    rw [PySem.W.toks_all_cons, PySem.W.keyToksAll]
    rw [PyProof.Rows.lex_diff (O := PyProof.Rows.itemOrd) (by simp)]
    rfl
  | x :: xs, [] => by
    rw [sLex]
    show PyProof.Rows.lexLt PyProof.Rows.itemOrd (PySem.W.keyToksAll (.str x :: xs.map PyData.str)) (PySem.W.keyToksAll []) = false
    rw [PySem.W.toks_all_cons, PySem.W.keyToksAll]
    rw [PyProof.Rows.lex_diff (O := PyProof.Rows.itemOrd) (by simp)]
    rfl
  | x :: xs, y :: ys => by
    show PyProof.Rows.lexLt PyProof.Rows.itemOrd (PySem.W.keyToksAll (.str x :: xs.map PyData.str)) (PySem.W.keyToksAll (.str y :: ys.map PyData.str)) = _
    rw [sLex]
    have ha : PySem.W.alike (.str x) (.str y) = true := by rw [PySem.W.alike]
    by_cases h : x = y
    · rw [if_pos h, PySem.W.dataLt_all_yes ha (by rw [str_eq]; exact decide_eq_true h)]
      exact lt_rows xs ys
    · rw [if_neg h, PySem.W.dataLt_all_no ha (by rw [str_eq]; exact decide_eq_false h), PySem.W.dataLt_str]
      rfl
theorem name_strs {ds : List D} (h : nameD (.tup ds) = true) : ds = (ds.map lblT).map D.str := by
  obtain ⟨ds', e, _, h1, h2⟩ := name_ex h
  cases e
  rw [List.map_map]
  refine (List.map_id' ds).symm.trans (List.map_congr_left fun d m => ?_)
  obtain ⟨s, rfl, _⟩ := name_lbl h1 h2 d m
  rfl
theorem bef_nlt {x y : D} (hx : nameD x = true) (hy : nameD y = true) : befD x y = nlt x y := by
  obtain ⟨a, rfl, _⟩ := name_ex hx
  obtain ⟨b, rfl, _⟩ := name_ex hy
  have ea : rankD (.tup a) = .tup ((a.map lblT).reverse.map D.str) := by
    rw [List.map_reverse]
    exact congrArg (fun z => D.tup z.reverse) (name_strs hx)
  have eb : rankD (.tup b) = .tup ((b.map lblT).reverse.map D.str) := by
    rw [List.map_reverse]
    exact congrArg (fun z => D.tup z.reverse) (name_strs hy)
  unfold nlt
  rw [ea, eb, py_strs, py_strs, PySem.W.dataLt_tuple, lt_rows]
  rfl
theorem str_total {a b : Str} (h1 : strLt a b = false) (h2 : strLt b a = false) : a = b := by
  have h1 := of_decide_eq_false h1
  have h2 := of_decide_eq_false h2
  have : a.cps.toList = b.cps.toList := List.le_antisymm h2 h1
  exact PySem.W.str_of_cps this
theorem sLex_anti : ∀ {xs ys : List Str}, sLex xs ys = false → sLex ys xs = false → xs = ys
  | [], [], _, _ => rfl
  | [], _ :: _, h, _ => by rw [sLex] at h; cases h
  | _ :: _, [], _, h => by rw [sLex] at h; cases h
  | x :: xs, y :: ys, h1, h2 => by
    rw [sLex] at h1 h2
    by_cases e : x = y
    · rw [if_pos e] at h1
      rw [if_pos e.symm] at h2
      rw [e, sLex_anti h1 h2]
    · rw [if_neg e] at h1
      rw [if_neg (Ne.symm e)] at h2
      exact absurd (str_total h1 h2) e
theorem name_anti {x y : D} (hx : nameD x = true) (hy : nameD y = true) (h1 : nlt x y = false) (h2 : nlt y x = false) : x = y := by
  rw [← bef_nlt hx hy] at h1
  rw [← bef_nlt hy hx] at h2
  have e := sLex_anti h1 h2
  obtain ⟨a, rfl, _⟩ := name_ex hx
  obtain ⟨b, rfl, _⟩ := name_ex hy
  have e2 : a.map lblT = b.map lblT := List.reverse_inj.mp e
  rw [name_strs hx, name_strs hy, e2]
theorem srt_uniq : ∀ {l m : List D}, l.Perm m → SrtO.Srtd nlt l → SrtO.Srtd nlt m → (∀ x ∈ l, nameD x = true) → l = m
  | [], m, p, _, _, _ => (List.nil_perm.mp p).symm
  | x :: l, [], p, _, _, _ => absurd (List.perm_nil.mp p) (fun z => nomatch z)
  | x :: l, y :: m, p, h1, h2, hn => by
    have hx : x ∈ y :: m := p.mem_iff.mp List.mem_cons_self
    have hy : y ∈ x :: l := p.mem_iff.mpr List.mem_cons_self
    have nx := hn x List.mem_cons_self
    have ny := hn y hy
    have e1 : nlt y x = false := by
      rcases List.mem_cons.mp hy with z | z
      · rw [z]
        exact nlt_swo.refl x
      · exact SrtO.srtd_head h1 y z
    have e2 : nlt x y = false := by
      rcases List.mem_cons.mp hx with z | z
      · rw [z]
        exact nlt_swo.refl y
      · exact SrtO.srtd_head h2 x z
    have e := name_anti nx ny e2 e1
    subst e
    rw [srt_uniq (p.cons_inv) (List.pairwise_cons.mp h1).2 (List.pairwise_cons.mp h2).2 fun z m => hn z (List.mem_cons_of_mem _ m)]
theorem rank_tup {x : D} (h : nameD x = true) : ∃ xs : List Str, py (rankD x) = .tuple (xs.map PyData.str) := by
  obtain ⟨a, rfl, _⟩ := name_ex h
  refine ⟨(a.map lblT).reverse, ?_⟩
  have ea : rankD (.tup a) = .tup ((a.map lblT).reverse.map D.str) := by
    rw [List.map_reverse]
    exact congrArg (fun z => D.tup z.reverse) (name_strs h)
  rw [ea, py_strs]
theorem alike_strs : ∀ xs ys : List Str, PySem.W.alikeAll (xs.map PyData.str) (ys.map PyData.str) = true
  | [], _ => by simp [PySem.W.alikeAll]
  | _ :: _, [] => by simp [PySem.W.alikeAll]
  | x :: xs, y :: ys => by
    show PySem.W.alikeAll (.str x :: xs.map .str) (.str y :: ys.map .str) = true
    rw [PySem.W.alikeAll, alike_strs xs ys]
    simp [PySem.W.alike]
theorem rank_keys {ns : List D} (h : ns.all nameD = true) : okKeys rankD ns := by
  have hn : ∀ x ∈ ns, nameD x = true := fun x m => List.all_eq_true.mp h x m
  have al : PySem.W.AllAlike (ns.map fun d => py (rankD d)) := fun d hd d' hd' => by
    obtain ⟨a, ma, rfl⟩ := List.mem_map.mp hd
    obtain ⟨b, mb, rfl⟩ := List.mem_map.mp hd'
    obtain ⟨xs, e1⟩ := rank_tup (hn a ma)
    obtain ⟨ys, e2⟩ := rank_tup (hn b mb)
    rw [e1, e2, PySem.W.alike]
    exact alike_strs xs ys
  refine ⟨fun d hd => al d hd d hd, .inr ⟨al, .inl fun d hd => ?_⟩, fun d m => ?_⟩
  · obtain ⟨a, ma, rfl⟩ := List.mem_map.mp hd
    obtain ⟨xs, e1⟩ := rank_tup (hn a ma)
    exact ⟨_, e1⟩
  · obtain ⟨a, rfl, _, h1, h2⟩ := name_ex (hn d m)
    refine (cn_tup (n := 0) fun z mz => ?_).ck
    obtain ⟨s, rfl, _⟩ := name_lbl h1 h2 z (List.mem_reverse.mp mz)
    exact cn_str 0 s
end
section
variable {K : PySem.W.Frag} {c_BadRecord c_HouseError c_BadName c_BadLine c_BadLetter c_BadChange c_BadZone c_BadTurn c_BadRow k_KINDS : Addr} {S : Sto} {P : W → Sto → Prop} {EP : Value → Sto → Prop}
theorem pure_p_name_rank : ∀ {ds : List D}, g_p_name_rank ds S P EP → t_p_name_rank K c_BadRecord c_HouseError c_BadName c_BadLine c_BadLetter c_BadChange c_BadZone c_BadTurn c_BadRow k_KINDS (EE EP) (DDs P) (startG 1 ds) S
  | [], h => h.elim
  | _ :: _ :: _, h => h.elim
  | [x], ⟨⟨ds, e⟩, h⟩ => by
    subst e
    exact h
end
section
variable {K : PySem.W.Frag} {c_BadRecord c_HouseError c_BadName c_BadLine c_BadLetter c_BadChange c_BadZone c_BadTurn c_BadRow k_KINDS : Addr} {S : Sto} {P : W → Sto → Prop} {EP : Value → Sto → Prop}
theorem at_neg {ds : List D} {j : Nat} {k : Int} (hk : k = (j : Int) + 1) (h : j < ds.length) : ∃ d, atI ds (-k) = some d ∧ ds.reverse[j]? = some d := by
  subst hk
  have hi : ds.length - 1 - j < ds.length := by omega
  have e : ds[ds.length - 1 - j]? = some ds[ds.length - 1 - j] := List.getElem?_eq_getElem hi
  refine ⟨ds[ds.length - 1 - j], ?_, ?_⟩
  · unfold atI ixN
    rw [if_neg (by omega), if_pos (by omega)]
    show ds[(_ : Nat)]? = _
    rw [show (-((j : Int) + 1) + (ds.length : Int)).toNat = ds.length - 1 - j by omega]
    exact e
  · rw [List.getElem?_reverse h]
    exact e
theorem drop_cons {α : Type} {l : List α} {j : Nat} {x : α} (h : l[j]? = some x) : l.drop j = x :: l.drop (j + 1) := by
  obtain ⟨hj, e⟩ := List.getElem?_eq_some_iff.mp h
  rw [← e]
  exact List.drop_eq_getElem_cons hj
theorem pure_before : ∀ {ds : List D}, g_before ds S P EP → t_before K c_BadRecord c_HouseError c_BadName c_BadLine c_BadLetter c_BadChange c_BadZone c_BadTurn c_BadRow k_KINDS (EE EP) (DDs P) (startG 3 ds) S
  | [], h => h.elim
  | [_], h => h.elim
  | _ :: _ :: _ :: _, h => h.elim
  | [x, y], ⟨⟨hx, hy⟩, h⟩ => by
    obtain ⟨a, rfl, la, _⟩ := name_ex hx
    obtain ⟨b, rfl, lb, _⟩ := name_ex hy
    have ea : ∀ {j : Nat} {d : D}, a.reverse[j]? = some d → ∃ s : Str, d = .str s ∧ (a.map lblT).reverse[j]? = some s := fun {j d} e => by
      rw [name_strs hx, ← List.map_reverse, List.getElem?_map] at e
      cases q : (a.map lblT).reverse[j]? with
      | none => rw [q] at e; cases e
      | some s => rw [q] at e; cases e; exact ⟨s, rfl, rfl⟩
    have eb : ∀ {j : Nat} {d : D}, b.reverse[j]? = some d → ∃ s : Str, d = .str s ∧ (b.map lblT).reverse[j]? = some s := fun {j d} e => by
      rw [name_strs hy, ← List.map_reverse, List.getElem?_map] at e
      cases q : (b.map lblT).reverse[j]? with
      | none => rw [q] at e; cases e
      | some s => rw [q] at e; cases e; exact ⟨s, rfl, rfl⟩
    have hA : (a.map lblT).reverse.length = a.length := by rw [List.length_reverse, List.length_map]
    have hB : (b.map lblT).reverse.length = b.length := by rw [List.length_reverse, List.length_map]
    have h : P (.d (.bl (sLex (a.map lblT).reverse (b.map lblT).reverse))) S := h
    have fin : ∀ j : Nat, j ≤ a.length → j ≤ b.length → ¬(j < a.length ∧ j < b.length) → sLex ((a.map lblT).reverse.drop j) ((b.map lblT).reverse.drop j) = sLex (a.map lblT).reverse (b.map lblT).reverse → P (.d (.bl (decide ((a.length : Int) < b.length)))) S := fun j h1 h2 h3 e => by
      rw [← e] at h
      by_cases ja : j < a.length
      · have jb : j = b.length := by omega
        obtain ⟨s, hs⟩ : ∃ s, (a.map lblT).reverse[j]? = some s := ⟨_, List.getElem?_eq_getElem (by omega)⟩
        have eB : (b.map lblT).reverse.drop j = [] := List.drop_of_length_le (by omega)
        rw [drop_cons hs, eB, sLex] at h
        rw [decide_eq_false (by omega)]
        exact h
      · have eA : (a.map lblT).reverse.drop j = [] := List.drop_of_length_le (by omega)
        rw [eA] at h
        by_cases jb : j < b.length
        · obtain ⟨s, hs⟩ : ∃ s, (b.map lblT).reverse[j]? = some s := ⟨_, List.getElem?_eq_getElem (by omega)⟩
          rw [drop_cons hs, sLex] at h
          rw [decide_eq_true (by omega)]
          exact h
        · have eB : (b.map lblT).reverse.drop j = [] := List.drop_of_length_le (by omega)
          rw [eB, sLex] at h
          rw [decide_eq_false (by omega)]
          exact h
    refine ⟨_, whileL_inv (fun n Γ S' => ∃ (j : Nat) (k : Int), k = (j : Int) + 1 ∧ Γ = [some (.d (.tup a)), some (.d (.tup b)), some (.d (.int k))] ∧ S' = S ∧ j ≤ a.length ∧ j ≤ b.length ∧ n = a.length - j ∧ sLex ((a.map lblT).reverse.drop j) ((b.map lblT).reverse.drop j) = sLex (a.map lblT).reverse (b.map lblT).reverse) ?_ (a.length - 0) _ S ⟨0, 1, rfl, rfl, rfl, Nat.zero_le _, Nat.zero_le _, rfl, rfl⟩⟩
    rintro n Γ S' nx hnx ⟨j, k, hk, rfl, rfl, ja, jb, rfl, e⟩
    refine br (fun h1 => br (fun h2 => ?_) fun h2 => ?_) fun h1 => br_f ?_
    · have h1 := of_decide_eq_true h1
      have h2 := of_decide_eq_true h2
      have ja' : j < a.length := by omega
      have jb' : j < b.length := by omega
      obtain ⟨d, d1, d2⟩ := at_neg hk ja'
      obtain ⟨c, c1, c2⟩ := at_neg hk jb'
      obtain ⟨s, rfl, s2⟩ := ea d2
      obtain ⟨t, rfl, t2⟩ := eb c2
      refine ⟨_, d1, _, c1, ck_str _, ck_str _, ?_⟩
      have es : eqD (.str s) (.str t) = decide (s = t) := str_eq
      rw [drop_cons s2, drop_cons t2, sLex] at e
      refine br (fun z => ?_) fun z => ?_
      · have z : eqD (.str s) (.str t) = false := nb z
        rw [es] at z
        rw [if_neg (of_decide_eq_false z)] at e
        rw [← e] at h
        exact ⟨_, d1, _, c1, h⟩
      · have z : eqD (.str s) (.str t) = true := nbf z
        rw [es] at z
        rw [if_pos (of_decide_eq_true z)] at e
        exact hnx (a.length - (j + 1)) _ _ (by omega) ⟨j + 1, k + 1, by omega, rfl, rfl, by omega, by omega, rfl, e⟩
    · have h1 := of_decide_eq_true h1
      have h2 := of_decide_eq_false h2
      exact fin j ja jb (by omega) e
    · have h1 := of_decide_eq_false h1
      exact fin j ja jb (by omega) e
end
end DL.K03
namespace DL.K03
open PySem PySem.Spec PyProof.Rows L2
section
variable {K : PySem.W.Frag} {c_BadRecord c_HouseError c_BadName c_BadLine c_BadLetter c_BadChange c_BadZone c_BadTurn c_BadRow k_KINDS : Addr} {S : Sto} {P : W → Sto → Prop} {EP : Value → Sto → Prop}
theorem br_eq {A B : Prop} {k s : Str} (h1 : k = s → A) (h2 : k ≠ s → B) : (eqD (.str k) (.str s) = true → A) ∧ (eqD (.str k) (.str s) = false → B) := by
  have e : eqD (.str k) (.str s) = decide (k = s) := str_eq
  rw [e]
  exact ⟨fun z => h1 (of_decide_eq_true z), fun z => h2 (of_decide_eq_false z)⟩
theorem br_ne {A B : Prop} {k s : Str} (h1 : k ≠ s → A) (h2 : k = s → B) : ((!eqD (.str k) (.str s)) = true → A) ∧ ((!eqD (.str k) (.str s)) = false → B) := by
  have e : eqD (.str k) (.str s) = decide (k = s) := str_eq
  rw [e]
  exact ⟨fun z => h1 (of_decide_eq_false (nb z)), fun z => h2 (of_decide_eq_true (nbf z))⟩
theorem int_eq (a b : Int) : eqD (.int a) (.int b) = decide (a = b) := by
  show (a == b) = decide (a = b)
  by_cases h : a = b
  · subst h
    simp
  · rw [decide_eq_false h]
    exact beq_eq_false_iff_ne.mpr h
/-- a length that is, or is not, the one asked for -/
theorem br_len {A B : Prop} {a b : Int} (h1 : a ≠ b → A) (h2 : a = b → B) : ((!eqD (.int a) (.int b)) = true → A) ∧ ((!eqD (.int a) (.int b)) = false → B) := by
  rw [int_eq]
  exact ⟨fun z => h1 (of_decide_eq_false (nb z)), fun z => h2 (of_decide_eq_true (nbf z))⟩
theorem br_leq {A B : Prop} {a b : Int} (h1 : a = b → A) (h2 : a ≠ b → B) : (eqD (.int a) (.int b) = true → A) ∧ (eqD (.int a) (.int b) = false → B) := by
  rw [int_eq]
  exact ⟨fun z => h1 (of_decide_eq_true z), fun z => h2 (of_decide_eq_false z)⟩
theorem kind_any (s : Str) : ((kinds9.map D.str).any fun z => eqD z (.str s)) = kindD (.str s) := by
  show _ = decide (s ∈ kinds9)
  rw [List.any_map]
  cases h : decide (s ∈ kinds9) with
  | true =>
    refine List.any_eq_true.mpr ⟨s, of_decide_eq_true h, ?_⟩
    show eqD (.str s) (.str s) = true
    exact eqD_refl _
  | false =>
    refine List.any_eq_false.mpr fun k m z => ?_
    have e : eqD (.str k) (.str s) = decide (k = s) := str_eq
    have z : eqD (.str k) (.str s) = true := z
    rw [e] at z
    have z := of_decide_eq_true z
    subst z
    exact of_decide_eq_false h m
theorem pure_p_is_starless : ∀ {ds : List D}, g_p_is_starless ds S P EP → t_p_is_starless K c_BadRecord c_HouseError c_BadName c_BadLine c_BadLetter c_BadChange c_BadZone c_BadTurn c_BadRow k_KINDS (EE EP) (DDs P) (startG 1 ds) S
  | [], h => h.elim
  | _ :: _ :: _, h => h.elim
  | [x], ⟨hx, h⟩ => by
    refine ⟨hx, br (fun z => ?_) fun z => ?_⟩
    · obtain ⟨ds, rfl, hl, h1, h2⟩ := name_ex z
      have hc : cmpOk (.tup (cutL ds none (some 1))) := (cn_tup (n := 0) fun d m => by
        obtain ⟨s, rfl, _⟩ := name_lbl h1 h2 d (cut_sub m)
        exact cn_str 0 s).ck
      refine ⟨(by decide : (1 : Nat) ≤ 100000), hc, (cn_tup (n := 0) fun d m => by
        rw [List.mem_singleton.mp m]
        exact cn_str 0 _).ck, ?_⟩
      have h : P (.d (.bl (nameD (.tup ds) && !eqD (.tup (ds.take 1)) (.tup [.str ("*" : Str)])))) S := h
      rw [z, Bool.true_and, ← cut_to1] at h
      exact h
    · have h : P (.d (.bl (nameD x && _))) S := h
      rw [z, Bool.false_and] at h
      exact h
theorem pure_p_is_among : ∀ {ds : List D}, g_p_is_among ds S P EP → t_p_is_among K c_BadRecord c_HouseError c_BadName c_BadLine c_BadLetter c_BadChange c_BadZone c_BadTurn c_BadRow k_KINDS (EE EP) (DDs P) (startG 3 ds) S := fun {ds} h => by
  unfold g_p_is_among at h
  split at h
  · rename_i x a b
    obtain ⟨hx, h⟩ := h
    cases x with
    | int i =>
      refine ⟨true, rfl, br_t ⟨false, rfl, br_t (br (fun z => ?_) fun z => ?_)⟩⟩
      · have h : P (.d (.bl (decide (a ≤ i) && decide (i ≤ b)))) S := h
        rw [show decide (a ≤ i) = true from z, Bool.true_and] at h
        exact h
      · have h : P (.d (.bl (decide (a ≤ i) && decide (i ≤ b)))) S := h
        rw [show decide (a ≤ i) = false from z, Bool.false_and] at h
        exact h
    | bl k => exact ⟨true, rfl, br_t ⟨true, rfl, br_f h⟩⟩
    | ref _ => cases hx
    | exc _ => cases hx
    | val _ => cases hx
    | _ => exact ⟨false, rfl, br_f h⟩
  · exact h.elim
theorem pure_p_is_kind : ∀ {ds : List D}, g_p_is_kind ds S P EP → t_p_is_kind K c_BadRecord c_HouseError c_BadName c_BadLine c_BadLetter c_BadChange c_BadZone c_BadTurn c_BadRow k_KINDS (EE EP) (DDs P) (startG 1 ds) S
  | [], h => h.elim
  | _ :: _ :: _, h => h.elim
  | [x], ⟨hx, h⟩ => by
    cases x with
    | str s =>
      refine ⟨true, rfl, br_t ⟨ck_str _, rfl, ?_⟩⟩
      have h : P (.d (.bl (kindD (.str s)))) S := h
      rw [← kind_any] at h
      exact h
    | ref _ => cases hx
    | exc _ => cases hx
    | val _ => cases hx
    | _ => exact ⟨false, rfl, br_f h⟩
theorem pure_p_is_live : ∀ {ds : List D}, g_p_is_live ds S P EP → t_p_is_live K c_BadRecord c_HouseError c_BadName c_BadLine c_BadLetter c_BadChange c_BadZone c_BadTurn c_BadRow k_KINDS (EE EP) (DDs P) (startG 1 ds) S
  | [], h => h.elim
  | _ :: _ :: _, h => h.elim
  | [x], ⟨hx, h⟩ => ⟨hx, h⟩
theorem sgl_lt (a b : Nat) : strLt ⟨#[a]⟩ ⟨#[b]⟩ = decide (a < b) := by
  show decide ([a] < [b]) = decide (a < b)
  congr 1
  simp [List.cons_lt_cons_iff]
def prD (d : D) : Bool := match d with
  | .str x => x.cps.toList.all printOk
  | _ => false
theorem prD_map (s : Str) : (signsOf s).map prD = s.cps.toList.map printOk := by
  unfold signsOf
  rw [List.map_map]
  refine List.map_congr_left fun c _ => ?_
  show [c].all printOk = printOk c
  rw [List.all_cons, List.all_nil, Bool.and_true]
theorem blank_is : (" " : Str) = ⟨#[32]⟩ := by decide
theorem tilde_is : ("~" : Str) = ⟨#[126]⟩ := by decide
theorem pure_p_is_words : ∀ {ds : List D}, g_p_is_words ds S P EP → t_p_is_words K c_BadRecord c_HouseError c_BadName c_BadLine c_BadLetter c_BadChange c_BadZone c_BadTurn c_BadRow k_KINDS (EE EP) (DDs P) (startG 2 ds) S
  | [], h => h.elim
  | _ :: _ :: _, h => h.elim
  | [x], ⟨hx, h⟩ => by
    cases x with
    | str s =>
      have hs : s.length ≤ 100000 := Nat.le_trans (of_decide_eq_true hx) (by decide)
      have h : P (.d (.bl (decide ((s.length : Int) ≤ 30) && s.cps.toList.all printOk))) S := h
      refine ⟨true, rfl, br_f ⟨hs, br (fun z => ?_) fun z => ?_⟩⟩
      · have z : (s.length : Int) > 30 := of_decide_eq_true z
        rw [decide_eq_false (by omega), Bool.false_and] at h
        exact h
      · have z : ¬ (s.length : Int) > 30 := of_decide_eq_false z
        rw [decide_eq_true (by omega), Bool.true_and] at h
        refine compL_map (fun d => .bl (prD d)) (signsOf s) [] (fun d m Q q => ?_) ?_ ?_
        · obtain ⟨c, _, rfl⟩ := List.mem_map.mp m
          have q : Q (.bl ([c].all printOk)) S := q
          rw [List.all_cons, List.all_nil, Bool.and_true] at q
          have k1 : strLt ⟨#[c]⟩ (" " : Str) = decide (c < 32) := by rw [blank_is]; exact sgl_lt _ _
          have k2 : strLt ("~" : Str) ⟨#[c]⟩ = decide (126 < c) := by rw [tilde_is]; exact sgl_lt _ _
          unfold printOk at q
          have go2 : c ≤ 126 → 32 ≤ c → cmpOk (.int (c : Int)) ∧ cmpOk (.int 37) ∧ Q (.bl (!eqD (.int (c : Int)) (.int 37))) S := fun a b => by
            refine ⟨ck_int _, ck_int _, ?_⟩
            rw [int_eq]
            rw [decide_eq_true a, decide_eq_true b, Bool.true_and, Bool.true_and] at q
            by_cases e : c = 37
            · subst e
              exact q
            · rw [decide_eq_false (by omega)]
              rw [decide_eq_true e] at q
              exact q
          show ((!strLt ⟨#[c]⟩ (" " : Str)) = true → _) ∧ ((!strLt ⟨#[c]⟩ (" " : Str)) = false → _)
          rw [k1]
          refine br (fun y => ?_) fun y => ?_
          · have y : ¬ c < 32 := of_decide_eq_false (nb y)
            show ((!strLt ("~" : Str) ⟨#[c]⟩) = true → _) ∧ ((!strLt ("~" : Str) ⟨#[c]⟩) = false → _)
            rw [k2]
            refine br (fun x => ?_) fun x => ?_
            · have x : ¬ 126 < c := of_decide_eq_false (nb x)
              exact ⟨rfl, go2 (by omega) (by omega)⟩
            · have x : 126 < c := of_decide_eq_true (nbf x)
              rw [decide_eq_false (by omega : ¬ c ≤ 126), Bool.and_false, Bool.false_and] at q
              exact q
          · have y : c < 32 := of_decide_eq_true (nbf y)
            rw [decide_eq_false (by omega : ¬ 32 ≤ c), Bool.false_and, Bool.false_and] at q
            exact br_f q
        · show _ ≤ _
          unfold signsOf
          rw [List.length_map, List.length_nil, Nat.zero_add]
          exact hs
        · refine ⟨_, bls (p := prD) _, ?_⟩
          rw [prD_map, all_id]
          exact h
    | ref _ => cases hx
    | exc _ => cases hx
    | val _ => cases hx
    | _ => exact ⟨false, rfl, br_t (br_t h)⟩
end
end DL.K03
namespace DL.K03
open PySem PySem.Spec PyProof.Rows L2
section
variable {K : PySem.W.Frag} {c_BadRecord c_HouseError c_BadName c_BadLine c_BadLetter c_BadChange c_BadZone c_BadTurn c_BadRow k_KINDS : Addr} {S : Sto} {P : W → Sto → Prop} {EP : Value → Sto → Prop}
theorem ok_at {ds : List D} {d : D} (h : okD (.tup ds) = true) (m : d ∈ ds) : okD d = true := okDs_mem (show okDs ds = true from h) m
theorem smDs_mem : ∀ {ds : List D} {d : D}, smDs ds = true → d ∈ ds → smD d = true
  | _ :: _, _, h, .head _ => (Bool.and_eq_true _ _ ▸ (show (_ && _) = true from h)).1
  | _ :: _, _, h, .tail _ m => smDs_mem (Bool.and_eq_true _ _ ▸ (show (_ && _) = true from h)).2 m
theorem smDs_of : ∀ {ds : List D}, (∀ d ∈ ds, smD d = true) → smDs ds = true
  | [], _ => rfl
  | d :: ds, h => by
    show (smD d && smDs ds) = true
    rw [h d (.head _), smDs_of fun x m => h x (.tail _ m)]
    rfl
theorem sm_len {ds : List D} (h : smD (.tup ds) = true) : ds.length ≤ 60 := by
  have h : (decide (ds.length ≤ 60) && smDs ds) = true := h
  rw [Bool.and_eq_true] at h
  exact of_decide_eq_true h.1
theorem gd_at {ds : List D} {d : D} (h : Gd (.tup ds)) (m : d ∈ ds) : Gd d := by
  refine ⟨ok_at h.1 m, ?_⟩
  have h2 : (decide (ds.length ≤ 60) && smDs ds) = true := h.2
  rw [Bool.and_eq_true] at h2
  exact smDs_mem h2.2 m
theorem pure_p_is_top : ∀ {ds : List D}, g_p_is_top ds S P EP → t_p_is_top K c_BadRecord c_HouseError c_BadName c_BadLine c_BadLetter c_BadChange c_BadZone c_BadTurn c_BadRow k_KINDS (EE EP) (DDs P) (startG 1 ds) S
  | [], h => h.elim
  | _ :: _ :: _, h => h.elim
  | [x], ⟨hx, h⟩ => by
    cases x with
    | tup ds =>
      refine ⟨true, rfl, br_t ⟨ck_int _, ck_int _, br_leq (fun z => ?_) fun z => ?_⟩⟩
      · have z : ds.length = 2 := by omega
        match ds, z, hx, h with
        | [a, b], _, hx, h =>
          have oa := ok_at hx (.head _)
          have ob := ok_at hx (.tail _ (.head _))
          refine ⟨a, rfl, oa, br (fun y => ?_) fun y => ?_⟩
          · have h : P (.d (.bl (amongD a 0 4294967295 && liveD b))) S := h
            rw [show amongD a 0 4294967295 = true from y, Bool.true_and] at h
            exact ⟨b, rfl, ob, h⟩
          · have h : P (.d (.bl (amongD a 0 4294967295 && liveD b))) S := h
            rw [show amongD a 0 4294967295 = false from y, Bool.false_and] at h
            exact h
      · have e : topD (.tup ds) = false := by
          unfold topD
          split
          · rename_i a b q
            cases q
            exact absurd rfl z
          · rfl
        have h : P (.d (.bl (topD (.tup ds)))) S := h
        rw [e] at h
        exact h
    | ref _ => cases hx
    | exc _ => cases hx
    | val _ => cases hx
    | _ => exact ⟨false, rfl, br_f h⟩
theorem pure_p_is_seal : ∀ {ds : List D}, g_p_is_seal ds S P EP → t_p_is_seal K c_BadRecord c_HouseError c_BadName c_BadLine c_BadLetter c_BadChange c_BadZone c_BadTurn c_BadRow k_KINDS (EE EP) (DDs P) (startG 1 ds) S
  | [], h => h.elim
  | _ :: _ :: _, h => h.elim
  | [x], ⟨hx, h⟩ => by
    cases x with
    | tup ds =>
      refine ⟨true, rfl, br_f ⟨ck_int _, ck_int _, br_len (fun z => ?_) fun z => ?_⟩⟩
      · have e : sealD (.tup ds) = false := by
          unfold sealD
          split
          · rename_i a b c q
            cases q
            exact absurd rfl z
          · rfl
        have h : P (.d (.bl (sealD (.tup ds)))) S := h
        rw [e] at h
        exact br_t h
      · have z : ds.length = 3 := by omega
        match ds, z, hx, h with
        | [a, b, c], _, hx, h =>
          have oa := ok_at hx (.head _)
          have ob := ok_at hx (.tail _ (.head _))
          have oc := ok_at hx (.tail _ (.tail _ (.head _)))
          have h : P (.d (.bl (kindD a && !eqD a (.str ("seal" : Str)) && amongD b 1 1000000000000 && amongD c 0 1000000006))) S := h
          refine ⟨a, rfl, oa, br (fun y => ?_) fun y => ?_⟩
          · rw [nb y, Bool.false_and, Bool.false_and, Bool.false_and] at h
            exact br_t h
          · have y : kindD a = true := nbf y
            rw [y, Bool.true_and] at h
            cases a with
            | str s =>
              refine ⟨_, rfl, ck_str _, ck_str _, br (fun u => ?_) fun u => ?_⟩
              · rw [show eqD (.str s) (.str ("seal" : Str)) = true from u] at h
                exact h
              · rw [show eqD (.str s) (.str ("seal" : Str)) = false from u] at h
                refine ⟨b, rfl, ob, br (fun v => ?_) fun v => ?_⟩
                · rw [show amongD b 1 1000000000000 = true from v] at h
                  exact ⟨c, rfl, oc, h⟩
                · rw [show amongD b 1 1000000000000 = false from v] at h
                  exact h
            | _ => cases y
    | ref _ => cases hx
    | exc _ => cases hx
    | val _ => cases hx
    | _ => exact ⟨false, rfl, br_t (br_t h)⟩
/-! ### texts that rise -/
def ltA2 (ks : List D) (i : Int) : Bool := match ks[i.toNat]?, ks[i.toNat + 1]? with
  | some (.str a), some (.str b) => strLt a b
  | _, _ => true
def ltAt (ks : List D) (d : D) : Bool := match d with
  | .int i => ltA2 ks i
  | _ => true
theorem all_shift (x : D) (ks : List D) : ∀ (n : Nat) (lo : Int), 0 ≤ lo → (intsFrom (lo + 1) n).all (ltAt (x :: ks)) = (intsFrom lo n).all (ltAt ks)
  | 0, _, _ => rfl
  | n + 1, lo, h => by
    show (ltAt (x :: ks) (.int (lo + 1)) && _) = (ltAt ks (.int lo) && _)
    rw [all_shift x ks n (lo + 1) (by omega)]
    congr 1
    have e : (lo + 1).toNat = lo.toNat + 1 := by omega
    show ltA2 (x :: ks) (lo + 1) = ltA2 ks lo
    unfold ltA2
    rw [e, List.getElem?_cons_succ, List.getElem?_cons_succ]
theorem rise_all : ∀ ks : List D, (∀ d ∈ ks, ∃ s, d = .str s) → (intsFrom 0 (ks.length - 1)).all (ltAt ks) = rising ks
  | [], _ => rfl
  | [x], _ => by
    show true = rising [x]
    unfold rising
    split
    · rename_i q; cases q
    · rfl
  | x :: y :: r, h => by
    obtain ⟨a, rfl⟩ := h _ (.head _)
    obtain ⟨b, rfl⟩ := h _ (.tail _ (.head _))
    have ih := rise_all (.str b :: r) fun d m => h d (.tail _ m)
    show (ltAt (.str a :: .str b :: r) (.int 0) && (intsFrom (0 + 1) r.length).all _) = _
    rw [all_shift _ _ _ 0 (Int.le_refl _)]
    rw [show (D.str b :: r).length - 1 = r.length from rfl] at ih
    rw [ih, rising]
    rfl
theorem kind_str {d : D} (h : kindD d = true) : ∃ s, d = .str s ∧ s ∈ kinds9 := by
  cases d <;> first | cases h | skip
  exact ⟨_, rfl, of_decide_eq_true h⟩
theorem pure_p_is_gap : ∀ {ds : List D}, g_p_is_gap ds S P EP → t_p_is_gap K c_BadRecord c_HouseError c_BadName c_BadLine c_BadLetter c_BadChange c_BadZone c_BadTurn c_BadRow k_KINDS (EE EP) (DDs P) (startG 3 ds) S
  | [], h => h.elim
  | _ :: _ :: _, h => h.elim
  | [x], ⟨hx, h⟩ => by
    cases x with
    | tup ds =>
      refine ⟨true, rfl, br_f ⟨ck_int _, ck_int _, br_len (fun z => ?_) fun z => ?_⟩⟩
      · have e : gapD (.tup ds) = false := by
          unfold gapD
          split
          · rename_i a b q
            cases q
            exact absurd rfl z
          · rfl
        have h : P (.d (.bl (gapD (.tup ds)))) S := h
        rw [e] at h
        exact br_t h
      · have z : ds.length = 2 := by omega
        match ds, z, hx, h with
        | [a, b], _, hx, h =>
          have oa := ok_at hx.1 (.head _)
          have gb := gd_at hx (.tail _ (.head _))
          have ob := gb.1
          refine ⟨a, rfl, oa, br (fun y => ?_) fun y => ?_⟩
          · have e : gapD (.tup [a, b]) = false := by
              cases b <;> first | rfl | (show (nameD a && _ && _) = false; rw [nb y, Bool.false_and, Bool.false_and])
            have h : P (.d (.bl (gapD (.tup [a, b])))) S := h
            rw [e] at h
            exact br_t h
          · have y : nameD a = true := nbf y
            cases b with
            | tup ks =>
              have h : P (.d (.bl (nameD a && ks.all kindD && rising ks))) S := h
              rw [y, Bool.true_and] at h
              have hks : ∀ d ∈ ks, okD d = true := fun d m => ok_at ob m
              refine ⟨_, rfl, true, rfl, br_f ⟨_, rfl, ?_⟩⟩
              have hsz : ks.length ≤ 60 := sm_len gb.2
              refine compL_map (fun d => .bl (kindD d)) ks [] (fun d m Q q => ⟨hks d m, q⟩) (show 0 + _ ≤ 100000 by omega) ?_
              refine ⟨_, bls (p := kindD) ks, ?_⟩
              rw [allmap]
              refine br (fun u => ?_) fun u => ?_
              · rw [nb u, Bool.false_and] at h
                exact h
              · have u : ks.all kindD = true := nbf u
                rw [u, Bool.true_and] at h
                have hs : ∀ d ∈ ks, ∃ s, d = .str s := fun d m => by
                  obtain ⟨s, e, _⟩ := kind_str (List.all_eq_true.mp u d m)
                  exact ⟨s, e⟩
                refine ⟨_, rfl, Int.le_trans (by decide) (show (-1 : Int) ≤ (ks.length : Int) - 1 by omega), Int.lt_of_le_of_lt (show (ks.length : Int) - 1 ≤ 100 by omega) (by decide), ?_⟩
                have en : ((ks.length : Int) - 1).toNat = ks.length - 1 := by omega
                show compL _ _ _ (intsFrom 0 ((ks.length : Int) - 1).toNat) _ _ _ _
                rw [en]
                refine compL_map (fun d => .bl (ltAt ks d)) (intsFrom 0 (ks.length - 1)) [] (fun d m Q q => ?_) (by rw [ints_len]; show 0 + _ ≤ 100000; omega) ?_
                · obtain ⟨i, rfl, i0, i1⟩ := ints_mem m
                  have j1 : i.toNat < ks.length := by omega
                  have j2 : i.toNat + 1 < ks.length := by omega
                  obtain ⟨d1, e1, m1, g1⟩ := at_ex (xs := ks) (i := i) i0 (by omega)
                  obtain ⟨d2, e2, m2, g2⟩ := at_ex (xs := ks) (i := i + 1) (by omega) (by omega)
                  obtain ⟨s1, rfl⟩ := hs d1 m1
                  obtain ⟨s2, rfl⟩ := hs d2 m2
                  have g2 : ks[i.toNat + 1]? = some (.str s2) := by
                    rw [← g2]
                    congr 1
                    omega
                  have q : Q (.bl (ltA2 ks i)) S := q
                  unfold ltA2 at q
                  rw [g1, g2] at q
                  exact ⟨_, rfl, _, e1, _, rfl, _, e2, q⟩
                · refine ⟨_, bls (p := ltAt ks) _, ?_⟩
                  rw [allmap, rise_all ks hs]
                  exact h
            | ref _ => cases ob
            | exc _ => cases ob
            | val _ => cases ob
            | _ => exact ⟨_, rfl, false, rfl, br_t h⟩
    | ref _ => cases hx.1
    | exc _ => cases hx.1
    | val _ => cases hx.1
    | _ => exact ⟨false, rfl, br_t (br_t h)⟩
end
end DL.K03
namespace DL.K03
open PySem PySem.Spec PyProof.Rows L2
section
variable {K : PySem.W.Frag} {c_BadRecord c_HouseError c_BadName c_BadLine c_BadLetter c_BadChange c_BadZone c_BadTurn c_BadRow k_KINDS : Addr} {S : Sto} {P : W → Sto → Prop} {EP : Value → Sto → Prop}
theorem data_addr (x : D) : dataD ("addr" : Str) x = amongD x 0 18446744073709551615 := rfl
theorem data_text (x : D) : dataD ("text" : Str) x = wordsD x := rfl
theorem data_keeper (x : D) : dataD ("keeper" : Str) x = starlessD x := rfl
theorem data_other (x : D) : dataD ("other" : Str) x = starlessD x := rfl
theorem data_top (x : D) : dataD ("top" : Str) x = topD x := rfl
theorem data_seal (x : D) : dataD ("seal" : Str) x = sealD x := rfl
theorem data_gap (x : D) : dataD ("gap" : Str) x = gapD x := rfl
theorem data_key (x : D) : dataD ("key" : Str) x = amongD x 1 1000000000000 := rfl
theorem data_trust (x : D) : dataD ("trust" : Str) x = amongD x 1 1000000000000 := rfl
theorem pure_p_is_data : ∀ {ds : List D}, g_p_is_data ds S P EP → t_p_is_data K c_BadRecord c_HouseError c_BadName c_BadLine c_BadLetter c_BadChange c_BadZone c_BadTurn c_BadRow k_KINDS (EE EP) (DDs P) (startG 2 ds) S := fun {ds} h => by
  unfold g_p_is_data at h
  split at h
  · rename_i k x
    obtain ⟨⟨hk, hx⟩, h⟩ := h
    unfold dataD at h
    refine ⟨ck_str _, ck_str _, br_eq (fun z => ?_) fun z => ?_⟩
    · rw [if_pos z] at h
      exact ⟨hx.1, h⟩
    rw [if_neg z] at h
    refine ⟨ck_str _, ck_str _, br_eq (fun z => ?_) fun z => ?_⟩
    · rw [if_pos z] at h
      exact ⟨hx.1, h⟩
    rw [if_neg z] at h
    refine ⟨ck_str _, ck_str _, br_eq (fun z => ?_) fun z => ⟨ck_str _, ck_str _, br_eq (fun z2 => ?_) fun z2 => ?_⟩⟩
    · rw [if_pos (.inl z)] at h
      exact br_t ⟨hx.1, h⟩
    · rw [if_pos (.inr z2)] at h
      exact ⟨hx.1, h⟩
    rw [if_neg (fun q => q.elim z z2)] at h
    refine ⟨ck_str _, ck_str _, br_eq (fun z => ?_) fun z => ?_⟩
    · rw [if_pos z] at h
      exact ⟨hx.1, h⟩
    rw [if_neg z] at h
    refine ⟨ck_str _, ck_str _, br_eq (fun z => ?_) fun z => ?_⟩
    · rw [if_pos z] at h
      exact ⟨hx.1, h⟩
    rw [if_neg z] at h
    refine ⟨ck_str _, ck_str _, br_eq (fun z => ?_) fun z => ?_⟩
    · rw [if_pos z] at h
      exact ⟨hx, h⟩
    rw [if_neg z] at h
    exact ⟨hx.1, h⟩
  · exact h.elim
theorem pure_p_is_record : ∀ {ds : List D}, g_p_is_record ds S P EP → t_p_is_record K c_BadRecord c_HouseError c_BadName c_BadLine c_BadLetter c_BadChange c_BadZone c_BadTurn c_BadRow k_KINDS (EE EP) (DDs P) (startG 1 ds) S
  | [], h => h.elim
  | _ :: _ :: _, h => h.elim
  | [x], ⟨hx, h⟩ => by
    cases x with
    | tup ds =>
      refine ⟨true, rfl, br_f ⟨ck_int _, ck_int _, br_len (fun z => ?_) fun z => ?_⟩⟩
      · have e : recD (.tup ds) = false := by
          unfold recD
          split
          · rename_i a b c d q
            cases q
            exact absurd rfl z
          · rfl
        have h : P (.d (.bl (recD (.tup ds)))) S := h
        rw [e] at h
        exact br_t h
      · have z : ds.length = 4 := by omega
        match ds, z, hx, h with
        | [n, k, l, d], _, hx, h =>
          have gn := gd_at hx (.head _)
          have gk := gd_at hx (.tail _ (.head _))
          have gl := gd_at hx (.tail _ (.tail _ (.head _)))
          have gd := gd_at hx (.tail _ (.tail _ (.tail _ (.head _))))
          have h : P (.d (.bl (recD (.tup [n, k, l, d])))) S := h
          refine ⟨n, rfl, gn.1, br (fun y => ?_) fun y => ?_⟩
          · have e : recD (.tup [n, k, l, d]) = false := by
              cases k <;> first | rfl | (show (nameD n && _ && _ && _) = false; rw [nb y, Bool.false_and, Bool.false_and, Bool.false_and])
            rw [e] at h
            exact br_t h
          · have y : nameD n = true := nbf y
            refine ⟨k, rfl, gk.1, br (fun u => ?_) fun u => ?_⟩
            · have e : recD (.tup [n, k, l, d]) = false := by
                cases k <;> first | rfl | (show (nameD n && kindD (.str _) && _ && _) = false; rw [nb u, Bool.and_false, Bool.false_and, Bool.false_and])
              rw [e] at h
              exact h
            · have u : kindD k = true := nbf u
              obtain ⟨s, rfl, _⟩ := kind_str u
              have h : P (.d (.bl (nameD n && kindD (.str s) && liveD l && dataD s d))) S := h
              rw [y, u, Bool.true_and, Bool.true_and] at h
              refine ⟨l, rfl, gl.1, br (fun v => ?_) fun v => ?_⟩
              · rw [show liveD l = true from v, Bool.true_and] at h
                exact ⟨_, rfl, d, rfl, ⟨u, gd⟩, h⟩
              · rw [show liveD l = false from v, Bool.false_and] at h
                exact h
    | ref _ => cases hx.1
    | exc _ => cases hx.1
    | val _ => cases hx.1
    | _ => exact ⟨false, rfl, br_t (br_t h)⟩
theorem star_name {x : D} (h : starlessD x = true) : nameD x = true := by
  unfold starlessD at h
  rw [Bool.and_eq_true] at h
  exact h.1
theorem name_tup {x : D} (h : nameD x = true) : ∃ ds, x = .tup ds := by
  obtain ⟨ds, rfl, _⟩ := name_ex h
  exact ⟨ds, rfl⟩
theorem gap_ex {x : D} (h : gapD x = true) : ∃ a ks, x = .tup [a, .tup ks] ∧ nameD a = true ∧ ks.all kindD = true ∧ rising ks = true := by
  unfold gapD at h
  split at h
  · rename_i a ks
    rw [Bool.and_eq_true, Bool.and_eq_true] at h
    exact ⟨a, ks, rfl, h.1.1, h.1.2, h.2⟩
  · cases h
theorem pure_p_data_rank : ∀ {ds : List D}, g_p_data_rank ds S P EP → t_p_data_rank K c_BadRecord c_HouseError c_BadName c_BadLine c_BadLetter c_BadChange c_BadZone c_BadTurn c_BadRow k_KINDS (EE EP) (DDs P) (startG 2 ds) S := fun {ds} h => by
  unfold g_p_data_rank at h
  split at h
  · rename_i k x
    obtain ⟨hd, h⟩ := h
    unfold drD at h
    refine ⟨ck_str _, ck_str _, br_eq (fun z => ?_) fun z => ⟨ck_str _, ck_str _, br_eq (fun z2 => ?_) fun z2 => ?_⟩⟩
    · rw [if_pos (.inl z)] at h
      subst z
      exact br_t ⟨name_tup (star_name hd), h⟩
    · rw [if_pos (.inr z2)] at h
      subst z2
      exact ⟨name_tup (star_name hd), h⟩
    rw [if_neg (fun q => q.elim z z2)] at h
    refine ⟨ck_str _, ck_str _, br_eq (fun z => ?_) fun z => ?_⟩
    · rw [if_pos z] at h
      subst z
      obtain ⟨a, ks, rfl, ha, _⟩ := gap_ex hd
      exact ⟨a, rfl, name_tup ha, _, rfl, (by decide : (2 : Nat) ≤ 100000), h⟩
    rw [if_neg z] at h
    exact h
  · exact h.elim
theorem rec_ex {x : D} (h : recD x = true) : ∃ n k l d, x = .tup [n, .str k, l, d] ∧ nameD n = true ∧ kindD (.str k) = true ∧ liveD l = true ∧ dataD k d = true := by
  unfold recD at h
  split at h
  · rename_i n k l d
    rw [Bool.and_eq_true, Bool.and_eq_true, Bool.and_eq_true] at h
    exact ⟨n, k, l, d, rfl, h.1.1.1, h.1.1.2, h.1.2, h.2⟩
  · cases h
theorem pure_p_record_rank : ∀ {ds : List D}, g_p_record_rank ds S P EP → t_p_record_rank K c_BadRecord c_HouseError c_BadName c_BadLine c_BadLetter c_BadChange c_BadZone c_BadTurn c_BadRow k_KINDS (EE EP) (DDs P) (startG 5 ds) S
  | [], h => h.elim
  | _ :: _ :: _, h => h.elim
  | [x], ⟨hx, h⟩ => by
    obtain ⟨n, k, l, d, rfl, hn, hk, hl, hd⟩ := rec_ex hx
    exact ⟨rfl, name_tup hn, hd, (by decide : (4 : Nat) ≤ 100000), h⟩
theorem pure_p_are_records : ∀ {ds : List D}, g_p_are_records ds S P EP → t_p_are_records K c_BadRecord c_HouseError c_BadName c_BadLine c_BadLetter c_BadChange c_BadZone c_BadTurn c_BadRow k_KINDS (EE EP) (DDs P) (startG 2 ds) S
  | [], h => h.elim
  | _ :: _ :: _, h => h.elim
  | [x], ⟨⟨hx, hs⟩, h⟩ => by
    cases x with
    | lst rs =>
      obtain ⟨h1, h2⟩ := hs rs rfl
      have h1 : rs.length ≤ 100000 := h1
      refine ⟨true, rfl, br_t ?_⟩
      refine compL_map (fun d => .bl (recD d)) rs [] (fun d m Q q => ⟨h2 d m, q⟩) (show 0 + _ ≤ 100000 by omega) ?_
      refine ⟨_, bls (p := recD) rs, ?_⟩
      rw [allmap]
      exact h
    | ref _ => cases hx
    | exc _ => cases hx
    | val _ => cases hx
    | _ => exact ⟨false, rfl, br_f h⟩
end
end DL.K03
namespace DL.K03
open PySem PySem.Spec PyProof.Rows L2
section
open PySem.W (alike alikeAll dataLt keyToks keyToksAll)
/-! ### the order of records -/
theorem alike_int (a b : Int) : alike (.int a) (.int b) = true := by rw [alike]
theorem alike_str (a b : Str) : alike (.str a) (.str b) = true := by rw [alike]
theorem alike_tup (xs ys : List PyData) : alike (.tuple xs) (.tuple ys) = alikeAll xs ys := by rw [alike]
theorem alike_cons {x y : PyData} {xs ys : List PyData} (h : alike x y = true) (h2 : alikeAll xs ys = true) : alikeAll (x :: xs) (y :: ys) = true := by
  rw [alikeAll, h, h2]
  rfl
theorem alike_nil (ys : List PyData) : alikeAll [] ys = true := by rw [alikeAll]
theorem eqv_int (a b : Int) : PyData.eqv (.int a) (.int b) = decide (a = b) := by
  show (a == b) = decide (a = b)
  by_cases h : a = b
  · subst h
    simp
  · rw [decide_eq_false h]
    exact beq_eq_false_iff_ne.mpr h
theorem eqv_tup (xs ys : List PyData) : PyData.eqv (.tuple xs) (.tuple ys) = PyData.eqvAll xs ys := by rw [PyData.eqv]
theorem strs_eq : ∀ {xs ys : List Str}, PyData.eqvAll (xs.map PyData.str) (ys.map PyData.str) = true → xs = ys
  | [], [], _ => rfl
  | [], _ :: _, h => by
    have h : PyData.eqvAll [] (PyData.str _ :: _) = true := h
    rw [PyData.eqvAll] at h
    cases h
    all_goals simp
  | _ :: _, [], h => by
    have h : PyData.eqvAll (PyData.str _ :: _) [] = true := h
    rw [PyData.eqvAll] at h
    cases h
    all_goals simp
  | x :: xs, y :: ys, h => by
    have h : PyData.eqvAll (PyData.str x :: xs.map PyData.str) (PyData.str y :: ys.map PyData.str) = true := h
    rw [PyData.eqvAll, Bool.and_eq_true, str_eq] at h
    rw [of_decide_eq_true h.1, strs_eq h.2]
theorem name_eqv {x y : D} (hx : nameD x = true) (hy : nameD y = true) (h : PyData.eqv (py (rankD x)) (py (rankD y)) = true) : x = y := by
  obtain ⟨a, rfl, _⟩ := name_ex hx
  obtain ⟨b, rfl, _⟩ := name_ex hy
  have ea : rankD (.tup a) = .tup ((a.map lblT).reverse.map D.str) := by
    rw [List.map_reverse]
    exact congrArg (fun z => D.tup z.reverse) (name_strs hx)
  have eb : rankD (.tup b) = .tup ((b.map lblT).reverse.map D.str) := by
    rw [List.map_reverse]
    exact congrArg (fun z => D.tup z.reverse) (name_strs hy)
  rw [ea, eb, py_strs, py_strs, eqv_tup] at h
  have q := List.reverse_inj.mp (strs_eq h)
  rw [name_strs hx, name_strs hy, q]
theorem name_alike {x y : D} (hx : nameD x = true) (hy : nameD y = true) : alike (py (rankD x)) (py (rankD y)) = true := by
  obtain ⟨xs, e1⟩ := rank_tup hx
  obtain ⟨ys, e2⟩ := rank_tup hy
  rw [e1, e2, alike_tup]
  exact alike_strs xs ys
theorem among_ex {x : D} {a b : Int} (h : amongD x a b = true) : ∃ i, x = .int i ∧ a ≤ i ∧ i ≤ b := by
  cases x <;> first | cases h | skip
  rename_i i
  have h : (decide (a ≤ i) && decide (i ≤ b)) = true := h
  rw [Bool.and_eq_true] at h
  exact ⟨i, rfl, of_decide_eq_true h.1, of_decide_eq_true h.2⟩
theorem words_ex {x : D} (h : wordsD x = true) : ∃ s, x = .str s ∧ s.length ≤ 30 ∧ s.cps.toList.all printOk = true := by
  cases x <;> first | cases h | skip
  rename_i s
  have h : (decide ((s.length : Int) ≤ 30) && s.cps.toList.all printOk) = true := h
  rw [Bool.and_eq_true] at h
  exact ⟨s, rfl, by have := of_decide_eq_true h.1; omega, h.2⟩
theorem top_ex {x : D} (h : topD x = true) : ∃ a b : Int, x = .tup [.int a, .int b] ∧ 0 ≤ a ∧ a ≤ 4294967295 ∧ 0 ≤ b ∧ b ≤ 1000000 := by
  unfold topD at h
  split at h
  · rename_i a b
    rw [Bool.and_eq_true] at h
    obtain ⟨i, rfl, i0, i1⟩ := among_ex h.1
    obtain ⟨j, rfl, j0, j1⟩ := among_ex h.2
    exact ⟨i, j, rfl, i0, i1, j0, j1⟩
  · cases h
theorem seal_ex {x : D} (h : sealD x = true) : ∃ (k : Str) (b c : Int), x = .tup [.str k, .int b, .int c] ∧ kindD (.str k) = true ∧ k ≠ ("seal" : Str) ∧ 1 ≤ b ∧ b ≤ 1000000000000 ∧ 0 ≤ c ∧ c ≤ 1000000006 := by
  unfold sealD at h
  split at h
  · rename_i a b c
    rw [Bool.and_eq_true, Bool.and_eq_true, Bool.and_eq_true] at h
    obtain ⟨k, rfl, _⟩ := kind_str h.1.1.1
    obtain ⟨i, rfl, i0, i1⟩ := among_ex h.1.2
    obtain ⟨j, rfl, j0, j1⟩ := among_ex h.2
    refine ⟨k, i, j, rfl, h.1.1.1, fun e => ?_, i0, i1, j0, j1⟩
    have q := h.1.1.2
    rw [e, eqD_refl] at q
    cases q
  · cases h
theorem kinds_strs {ks : List D} (h : ks.all kindD = true) : ∃ ss : List Str, ks = ss.map D.str ∧ ∀ s ∈ ss, s ∈ kinds9 := by
  induction ks with
  | nil => exact ⟨[], rfl, fun s m => by cases m⟩
  | cons k ks ih =>
    rw [List.all_cons, Bool.and_eq_true] at h
    obtain ⟨s, rfl, m⟩ := kind_str h.1
    obtain ⟨ss, rfl, hs⟩ := ih h.2
    exact ⟨s :: ss, rfl, fun z mz => by
      rcases List.mem_cons.mp mz with rfl | mz
      · exact m
      · exact hs z mz⟩
theorem py_tup (ds : List D) : py (.tup ds) = .tuple (ds.map py) := by rw [py, pyAll_map]
theorem py_int (i : Int) : py (.int i) = .int i := by rw [py]
theorem py_str (s : Str) : py (.str s) = .str s := by rw [py]
/-- the nine kinds of data -/
theorem data_cases {k : Str} (hk : kindD (.str k) = true) {M : Str → Prop} (h1 : M ("addr" : Str)) (h2 : M ("text" : Str)) (h3 : M ("keeper" : Str)) (h4 : M ("other" : Str)) (h5 : M ("top" : Str)) (h6 : M ("key" : Str)) (h7 : M ("trust" : Str))
    (h8 : M ("seal" : Str)) (h9 : M ("gap" : Str)) : M k := by
  have h : k ∈ kinds9 := of_decide_eq_true hk
  simp only [kinds9, List.mem_cons, List.not_mem_nil, or_false] at h
  rcases h with rfl | rfl | rfl | rfl | rfl | rfl | rfl | rfl | rfl <;> assumption
/-- two data of a kind: alike, and none but the same are equal; none is deep -/
def Same (k : Str) : Prop := ∀ x y, dataD k x = true → dataD k y = true → alike (py (drD k x)) (py (drD k y)) = true ∧ (PyData.eqv (py (drD k x)) (py (drD k y)) = true → x = y) ∧ ckN 2 (drD k x) ∧ ckN 2 x ∧ py (drD k x) ≠ .none
theorem same_int {x y : D} {a b : Int} (hx : amongD x a b = true) (hy : amongD y a b = true) : alike (py x) (py y) = true ∧ (PyData.eqv (py x) (py y) = true → x = y) ∧ ckN 2 x ∧ ckN 2 x ∧ py x ≠ .none := by
  obtain ⟨i, rfl, _⟩ := among_ex hx
  obtain ⟨j, rfl, _⟩ := among_ex hy
  rw [py_int, py_int]
  refine ⟨alike_int _ _, fun e => ?_, cn_int 2 _, cn_int 2 _, fun z => nomatch z⟩
  rw [eqv_int] at e
  rw [of_decide_eq_true e]
theorem ckup {n m : Nat} {x : D} (h : ckN n x) (hn : n ≤ m) : ckN m x := ⟨h.1, Nat.le_trans h.2 hn⟩
theorem rank_ck {x : D} (h : nameD x = true) : ckN 1 (rankD x) := by
  obtain ⟨a, rfl, _, h1, h2⟩ := name_ex h
  refine cn_tup (n := 0) fun z mz => ?_
  obtain ⟨s, rfl, _⟩ := name_lbl h1 h2 z (List.mem_reverse.mp mz)
  exact cn_str 0 s
theorem rank_none {x : D} (h : nameD x = true) : py (rankD x) ≠ .none := by
  obtain ⟨xs, e⟩ := rank_tup h
  rw [e]
  exact fun z => nomatch z
theorem same_name {x y : D} (hx : starlessD x = true) (hy : starlessD y = true) : alike (py (rankD x)) (py (rankD y)) = true ∧ (PyData.eqv (py (rankD x)) (py (rankD y)) = true → x = y) ∧ ckN 2 (rankD x) ∧ ckN 2 x ∧ py (rankD x) ≠ .none :=
  ⟨name_alike (star_name hx) (star_name hy), name_eqv (star_name hx) (star_name hy), ckup (rank_ck (star_name hx)) (by decide), ckup (name_ck (star_name hx)) (by decide), rank_none (star_name hx)⟩
theorem same_of {k : Str} (hk : kindD (.str k) = true) : Same k := by
  refine data_cases hk ?_ ?_ ?_ ?_ ?_ ?_ ?_ ?_ ?_
  · exact fun x y hx hy => same_int hx hy
  · intro x y hx hy
    obtain ⟨a, rfl, _⟩ := words_ex hx
    obtain ⟨b, rfl, _⟩ := words_ex hy
    show alike (py (.str a)) (py (.str b)) = true ∧ (PyData.eqv (py (.str a)) (py (.str b)) = true → _) ∧ ckN 2 (.str a) ∧ _ ∧ py (.str a) ≠ .none
    rw [py_str, py_str]
    refine ⟨alike_str _ _, fun e => ?_, cn_str 2 _, cn_str 2 _, fun z => nomatch z⟩
    rw [str_eq] at e
    rw [of_decide_eq_true e]
  · exact fun x y hx hy => same_name hx hy
  · exact fun x y hx hy => same_name hx hy
  · intro x y hx hy
    obtain ⟨a, b, rfl, _⟩ := top_ex hx
    obtain ⟨c, d, rfl, _⟩ := top_ex hy
    show alike (py (.tup _)) (py (.tup _)) = true ∧ (PyData.eqv (py (.tup _)) (py (.tup _)) = true → _) ∧ ckN 2 (.tup _) ∧ _ ∧ py (.tup _) ≠ .none
    have ck : ckN 2 (.tup [.int a, .int b]) := cn_tup (n := 1) fun d m => by
      simp only [List.mem_cons, List.not_mem_nil, or_false] at m
      rcases m with rfl | rfl <;> exact cn_int 1 _
    rw [py_tup, py_tup]
    refine ⟨?_, fun e => ?_, ck, ck, fun z => nomatch z⟩
    · rw [alike_tup]
      exact alike_cons (by rw [py_int, py_int]; exact alike_int _ _) (alike_cons (by rw [py_int, py_int]; exact alike_int _ _) (alike_nil _))
    · rw [eqv_tup] at e
      simp only [List.map_cons, List.map_nil, PyData.eqvAll, Bool.and_eq_true, py_int, eqv_int, decide_eq_true_eq] at e
      rw [e.1, e.2.1]
  · exact fun x y hx hy => same_int hx hy
  · exact fun x y hx hy => same_int hx hy
  · intro x y hx hy
    obtain ⟨k, b, c, rfl, _⟩ := seal_ex hx
    obtain ⟨k2, b2, c2, rfl, _⟩ := seal_ex hy
    show alike (py (.tup _)) (py (.tup _)) = true ∧ (PyData.eqv (py (.tup _)) (py (.tup _)) = true → _) ∧ ckN 2 (.tup _) ∧ _ ∧ py (.tup _) ≠ .none
    have ck : ckN 2 (.tup [.str k, .int b, .int c]) := cn_tup (n := 1) fun d m => by
      simp only [List.mem_cons, List.not_mem_nil, or_false] at m
      rcases m with rfl | rfl | rfl
      · exact cn_str 1 _
      · exact cn_int 1 _
      · exact cn_int 1 _
    rw [py_tup, py_tup]
    refine ⟨?_, fun e => ?_, ck, ck, fun z => nomatch z⟩
    · rw [alike_tup]
      exact alike_cons (by rw [py_str, py_str]; exact alike_str _ _) (alike_cons (by rw [py_int, py_int]; exact alike_int _ _) (alike_cons (by rw [py_int, py_int]; exact alike_int _ _) (alike_nil _)))
    · rw [eqv_tup] at e
      simp only [List.map_cons, List.map_nil, PyData.eqvAll, Bool.and_eq_true, py_int, py_str, eqv_int, str_eq, decide_eq_true_eq] at e
      rw [e.1, e.2.1, e.2.2.1]
  · intro x y hx hy
    obtain ⟨a, ks, rfl, ha, hks, _⟩ := gap_ex hx
    obtain ⟨b, ms, rfl, hb, hms, _⟩ := gap_ex hy
    obtain ⟨ss, rfl, _⟩ := kinds_strs hks
    obtain ⟨ts, rfl, _⟩ := kinds_strs hms
    show alike (py (.tup _)) (py (.tup _)) = true ∧ (PyData.eqv (py (.tup _)) (py (.tup _)) = true → _) ∧ ckN 2 (.tup _) ∧ _ ∧ py (.tup _) ≠ .none
    have hst : ckN 1 (.tup (ss.map D.str)) := cn_tup (n := 0) fun d m => by
      obtain ⟨s, _, rfl⟩ := List.mem_map.mp m
      exact cn_str 0 s
    have ck : ∀ n : D, ckN 1 n → ckN 2 (.tup [n, .tup (ss.map D.str)]) := fun n hn => cn_tup (n := 1) fun d m => by
      simp only [List.mem_cons, List.not_mem_nil, or_false] at m
      rcases m with rfl | rfl
      · exact hn
      · exact hst
    rw [py_tup, py_tup]
    refine ⟨?_, fun e => ?_, ck _ (rank_ck ha), ck _ (name_ck ha), fun z => nomatch z⟩
    · rw [alike_tup]
      exact alike_cons (name_alike ha hb) (alike_cons (by rw [py_strs, py_strs, alike_tup]; exact alike_strs _ _) (alike_nil _))
    · rw [eqv_tup] at e
      simp only [List.map_cons, List.map_nil, PyData.eqvAll, Bool.and_eq_true, py_strs, eqv_tup] at e
      rw [name_eqv ha hb e.1, strs_eq e.2.1]
end
end DL.K03
namespace DL.K03
open PySem PySem.Spec PyProof.Rows L2
section
open PySem.W (alike alikeAll dataLt keyToks keyToksAll)
/-- two data that compare: when they are equal, and that one of them is ahead if they aren't -/
structure Cmp (x y : PyData) (E : Prop) : Prop where
  al : alike x y = true
  al' : alike y x = true
  e : PyData.eqv x y = true ↔ E
  e' : PyData.eqv y x = true ↔ E
  c : dataLt x y = false → dataLt y x = false → E
structure CmpA (xs ys : List PyData) (E : Prop) : Prop where
  al : alikeAll xs ys = true
  al' : alikeAll ys xs = true
  e : PyData.eqvAll xs ys = true ↔ E
  e' : PyData.eqvAll ys xs = true ↔ E
  c : PyProof.Rows.lexLt itemOrd (keyToksAll xs) (keyToksAll ys) = false → PyProof.Rows.lexLt itemOrd (keyToksAll ys) (keyToksAll xs) = false → E
theorem Cmp.no {x y : PyData} {E : Prop} (h : Cmp x y E) (n : ¬ E) : PyData.eqv x y = false := by
  cases q : PyData.eqv x y with
  | false => rfl
  | true => exact absurd (h.e.mp q) n
theorem Cmp.no' {x y : PyData} {E : Prop} (h : Cmp x y E) (n : ¬ E) : PyData.eqv y x = false := by
  cases q : PyData.eqv y x with
  | false => rfl
  | true => exact absurd (h.e'.mp q) n
theorem Cmp.to {x y : PyData} {E F : Prop} (h : Cmp x y E) (q : E ↔ F) : Cmp x y F := ⟨h.al, h.al', h.e.trans q, h.e'.trans q, fun a b => q.mp (h.c a b)⟩
theorem cmp_int (a b : Int) : Cmp (.int a) (.int b) (a = b) where
  al := alike_int _ _
  al' := alike_int _ _
  e := by rw [eqv_int, decide_eq_true_eq]
  e' := by rw [eqv_int, decide_eq_true_eq]; exact eq_comm
  c := fun h1 h2 => by
    rw [PySem.W.dataLt_int] at h1 h2
    have h1 := of_decide_eq_false h1
    have h2 := of_decide_eq_false h2
    omega
theorem cmp_str (a b : Str) : Cmp (.str a) (.str b) (a = b) where
  al := alike_str _ _
  al' := alike_str _ _
  e := by rw [str_eq, decide_eq_true_eq]
  e' := by rw [str_eq, decide_eq_true_eq]; exact eq_comm
  c := fun h1 h2 => by
    rw [PySem.W.dataLt_str] at h1 h2
    exact str_total h1 h2
theorem cmp_nil : CmpA [] [] True where
  al := alike_nil _
  al' := alike_nil _
  e := by rw [PyData.eqvAll]; simp
  e' := by rw [PyData.eqvAll]; simp
  c := fun _ _ => trivial
theorem cmp_cons {x y : PyData} {xs ys : List PyData} {E F : Prop} (h : Cmp x y E) (q : CmpA xs ys F) : CmpA (x :: xs) (y :: ys) (E ∧ F) where
  al := alike_cons h.al q.al
  al' := alike_cons h.al' q.al'
  e := by rw [PyData.eqvAll, Bool.and_eq_true, h.e, q.e]
  e' := by rw [PyData.eqvAll, Bool.and_eq_true, h.e', q.e']
  c := fun h1 h2 => by
    by_cases hE : E
    · rw [PySem.W.dataLt_all_yes h.al (h.e.mpr hE)] at h1
      rw [PySem.W.dataLt_all_yes h.al' (h.e'.mpr hE)] at h2
      exact ⟨hE, q.c h1 h2⟩
    · rw [PySem.W.dataLt_all_no h.al (h.no hE)] at h1
      rw [PySem.W.dataLt_all_no h.al' (h.no' hE)] at h2
      exact absurd (h.c h1 h2) hE
theorem cmp_tup {xs ys : List PyData} {E : Prop} (h : CmpA xs ys E) : Cmp (.tuple xs) (.tuple ys) E where
  al := by rw [alike_tup]; exact h.al
  al' := by rw [alike_tup]; exact h.al'
  e := by rw [eqv_tup]; exact h.e
  e' := by rw [eqv_tup]; exact h.e'
  c := fun h1 h2 => by
    rw [PySem.W.dataLt_tuple] at h1 h2
    exact h.c h1 h2
theorem cmp_strs (ss ts : List Str) : Cmp (.tuple (ss.map PyData.str)) (.tuple (ts.map PyData.str)) (ss = ts) where
  al := by rw [alike_tup]; exact alike_strs _ _
  al' := by rw [alike_tup]; exact alike_strs _ _
  e := ⟨fun h => strs_eq (by rw [eqv_tup] at h; exact h), fun h => by
    subst h
    have := eqD_refl (.tup (ss.map D.str))
    unfold eqD at this
    rw [py_strs] at this
    exact this⟩
  e' := ⟨fun h => (strs_eq (by rw [eqv_tup] at h; exact h)).symm, fun h => by
    subst h
    have := eqD_refl (.tup (ss.map D.str))
    unfold eqD at this
    rw [py_strs] at this
    exact this⟩
  c := fun h1 h2 => by
    rw [PySem.W.dataLt_tuple, lt_rows] at h1 h2
    exact sLex_anti h1 h2
theorem cmp_name {n m : D} (hn : nameD n = true) (hm : nameD m = true) : Cmp (py (rankD n)) (py (rankD m)) (n = m) where
  al := name_alike hn hm
  al' := name_alike hm hn
  e := ⟨name_eqv hn hm, fun h => by subst h; exact eqD_refl (rankD n)⟩
  e' := ⟨fun h => (name_eqv hm hn h).symm, fun h => by subst h; exact eqD_refl (rankD n)⟩
  c := fun h1 h2 => name_anti hn hm h1 h2
theorem cmp_data {k : Str} (hk : kindD (.str k) = true) : ∀ x y, dataD k x = true → dataD k y = true → Cmp (py (drD k x)) (py (drD k y)) (x = y) := by
  have cint : ∀ {a b : Int} {x y : D}, amongD x a b = true → amongD y a b = true → Cmp (py x) (py y) (x = y) := fun {a b x y} hx hy => by
    obtain ⟨i, rfl, _⟩ := among_ex hx
    obtain ⟨j, rfl, _⟩ := among_ex hy
    rw [py_int, py_int]
    exact (cmp_int i j).to ⟨fun h => by rw [h], fun h => by cases h; rfl⟩
  refine data_cases (M := fun k => ∀ x y, dataD k x = true → dataD k y = true → Cmp (py (drD k x)) (py (drD k y)) (x = y)) hk ?_ ?_ ?_ ?_ ?_ ?_ ?_ ?_ ?_
  · exact fun x y hx hy => cint hx hy
  · intro x y hx hy
    obtain ⟨a, rfl, _⟩ := words_ex hx
    obtain ⟨b, rfl, _⟩ := words_ex hy
    show Cmp (py (.str a)) (py (.str b)) _
    rw [py_str, py_str]
    exact (cmp_str a b).to ⟨fun h => by rw [h], fun h => by cases h; rfl⟩
  · exact fun x y hx hy => cmp_name (star_name hx) (star_name hy)
  · exact fun x y hx hy => cmp_name (star_name hx) (star_name hy)
  · intro x y hx hy
    obtain ⟨a, b, rfl, _⟩ := top_ex hx
    obtain ⟨c, d, rfl, _⟩ := top_ex hy
    show Cmp (py (.tup _)) (py (.tup _)) _
    rw [py_tup, py_tup]
    simp only [List.map_cons, List.map_nil, py_int]
    exact (cmp_tup (cmp_cons (cmp_int a c) (cmp_cons (cmp_int b d) cmp_nil))).to ⟨fun h => by rw [h.1, h.2.1], fun h => by cases h; exact ⟨rfl, rfl, trivial⟩⟩
  · exact fun x y hx hy => cint hx hy
  · exact fun x y hx hy => cint hx hy
  · intro x y hx hy
    obtain ⟨k, b, c, rfl, _⟩ := seal_ex hx
    obtain ⟨k2, b2, c2, rfl, _⟩ := seal_ex hy
    show Cmp (py (.tup _)) (py (.tup _)) _
    rw [py_tup, py_tup]
    simp only [List.map_cons, List.map_nil, py_int, py_str]
    exact (cmp_tup (cmp_cons (cmp_str k k2) (cmp_cons (cmp_int b b2) (cmp_cons (cmp_int c c2) cmp_nil)))).to ⟨fun h => by rw [h.1, h.2.1, h.2.2.1], fun h => by cases h; exact ⟨rfl, rfl, rfl, trivial⟩⟩
  · intro x y hx hy
    obtain ⟨a, ks, rfl, ha, hks, _⟩ := gap_ex hx
    obtain ⟨b, ms, rfl, hb, hms, _⟩ := gap_ex hy
    obtain ⟨ss, rfl, _⟩ := kinds_strs hks
    obtain ⟨ts, rfl, _⟩ := kinds_strs hms
    show Cmp (py (.tup [rankD a, _])) (py (.tup [rankD b, _])) _
    rw [py_tup, py_tup]
    simp only [List.map_cons, List.map_nil, py_strs]
    refine (cmp_tup (cmp_cons (cmp_name ha hb) (cmp_cons (cmp_strs ss ts) cmp_nil))).to ⟨fun h => by rw [h.1, h.2.1], fun h => ?_⟩
    injection h with h
    injection h with h1 h2
    injection h2 with h2 _
    injection h2 with h2
    exact ⟨h1, (List.map_inj_right fun _ _ q => by injection q).mp h2, trivial⟩
/-! ### records by their keys -/
theorem rr_py (n : D) (k : Str) (l d : D) : py (rrD (.tup [n, .str k, l, d])) = .tuple [py (rankD n), .str k, py (drD k d), py l] := by
  show py (.tup [rankD n, .str k, drD k d, l]) = _
  rw [py_tup]
  simp only [List.map_cons, List.map_nil, py_str]
section
variable {n m l i d e : D} {k j : Str}
theorem rlt_n (hn : nameD n = true) (hm : nameD m = true) (h : n ≠ m) : ltD (rrD (.tup [n, .str k, l, d])) (rrD (.tup [m, .str j, i, e])) = nlt n m := by
  unfold ltD
  rw [rr_py, rr_py, PySem.W.dataLt_tuple, PySem.W.dataLt_all_no (cmp_name hn hm).al ((cmp_name hn hm).no h)]
  rfl
theorem rlt_k (h : k ≠ j) (hn : nameD n = true) : ltD (rrD (.tup [n, .str k, l, d])) (rrD (.tup [n, .str j, i, e])) = strLt k j := by
  unfold ltD
  rw [rr_py, rr_py, PySem.W.dataLt_tuple, PySem.W.dataLt_all_yes (cmp_name hn hn).al ((cmp_name hn hn).e.mpr rfl), PySem.W.dataLt_all_no (cmp_str k j).al ((cmp_str k j).no h), PySem.W.dataLt_str]
  rfl
theorem rlt_d (h : d ≠ e) (hn : nameD n = true) (hk : kindD (.str k) = true) (hd : dataD k d = true) (he : dataD k e = true) : ltD (rrD (.tup [n, .str k, l, d])) (rrD (.tup [n, .str k, i, e])) = ltD (drD k d) (drD k e) := by
  have c := cmp_data hk d e hd he
  unfold ltD
  rw [rr_py, rr_py, PySem.W.dataLt_tuple, PySem.W.dataLt_all_yes (cmp_name hn hn).al ((cmp_name hn hn).e.mpr rfl), PySem.W.dataLt_all_yes (cmp_str k k).al ((cmp_str k k).e.mpr rfl), PySem.W.dataLt_all_no c.al (c.no h)]
theorem rlt_l (hn : nameD n = true) (hk : kindD (.str k) = true) (hd : dataD k d = true) {a b : Int} : ltD (rrD (.tup [n, .str k, .int a, d])) (rrD (.tup [n, .str k, .int b, d])) = decide (a < b) := by
  have c := cmp_data hk d d hd hd
  unfold ltD
  rw [rr_py, rr_py, PySem.W.dataLt_tuple, PySem.W.dataLt_all_yes (cmp_name hn hn).al ((cmp_name hn hn).e.mpr rfl), PySem.W.dataLt_all_yes (cmp_str k k).al ((cmp_str k k).e.mpr rfl), PySem.W.dataLt_all_yes c.al (c.e.mpr rfl), py_int, py_int]
  by_cases h : a = b
  · subst h
    rw [PySem.W.dataLt_all_yes (cmp_int a a).al ((cmp_int a a).e.mpr rfl), decide_eq_false (by omega)]
    exact PyProof.Rows.lex_irrefl _
  · rw [PySem.W.dataLt_all_no (cmp_int a b).al ((cmp_int a b).no h), PySem.W.dataLt_int]
end
def rlt (x y : D) : Bool := ltD (rrD x) (rrD y)
theorem rec_anti {x y : D} (hx : recD x = true) (hy : recD y = true) (h1 : rlt x y = false) (h2 : rlt y x = false) : x = y := by
  obtain ⟨n, k, l, d, rfl, hn, hk, hl, hd⟩ := rec_ex hx
  obtain ⟨m, j, i, e, rfl, hm, hj, hi, he⟩ := rec_ex hy
  unfold rlt at h1 h2
  by_cases q1 : n = m
  · subst q1
    by_cases q2 : k = j
    · subst q2
      by_cases q3 : d = e
      · subst q3
        obtain ⟨a, rfl, _⟩ := among_ex hl
        obtain ⟨b, rfl, _⟩ := among_ex hi
        rw [rlt_l hn hk hd] at h1 h2
        have h1 := of_decide_eq_false h1
        have h2 := of_decide_eq_false h2
        have : a = b := by omega
        rw [this]
      · rw [rlt_d q3 hn hk hd he] at h1
        rw [rlt_d (fun z => q3 z.symm) hn hk he hd] at h2
        exact absurd ((cmp_data hk d e hd he).c h1 h2) q3
    · rw [rlt_k q2 hn] at h1
      rw [rlt_k (fun z => q2 z.symm) hn] at h2
      exact absurd (str_total h1 h2) q2
  · rw [rlt_n hn hm q1] at h1
    rw [rlt_n hm hn (fun z => q1 z.symm)] at h2
    exact absurd (name_anti hn hm h1 h2) q1
end
end DL.K03
namespace DL.K03
open PySem PySem.Spec PyProof.Rows L2
section
variable {K : PySem.W.Frag} {c_BadRecord c_HouseError c_BadName c_BadLine c_BadLetter c_BadChange c_BadZone c_BadTurn c_BadRow k_KINDS : Addr} {S : Sto} {P : W → Sto → Prop} {EP : Value → Sto → Prop}
open PySem.W (alike alikeAll dataLt keyToks keyToksAll)
theorem rlt_leK (a b : D) : leK rrD a b = !rlt b a := rfl
theorem rlt_swo : SrtO.Swo rlt where
  asym := fun x y h => by
    cases e : rlt y x with
    | false => rfl
    | true =>
      have t := (PyProof.Rows.listOrd PyProof.Rows.itemOrd).trans _ _ _ h e
      rw [(PyProof.Rows.listOrd PyProof.Rows.itemOrd).irrefl] at t
      cases t
  tr := fun x y z h1 h2 => by
    cases e : rlt z x with
    | false => rfl
    | true =>
      rcases (PyProof.Rows.listOrd PyProof.Rows.itemOrd).negTrans _ (PySem.W.keyToks (py (rrD y))) _ e with t | t
      · exact t.symm.trans h2
      · exact t.symm.trans h1
theorem sortR_srt (ds : List D) : SrtO.Srtd rlt (sortD rrD ds) := by
  have h := PySem.W.sort_pairwise (le := leK rrD) (PySem.W.sortLe_total (PyProof.Rows.listOrd PyProof.Rows.itemOrd) false fun d => PySem.W.keyToks (py (rrD d))) ds
  refine List.Pairwise.imp (fun {a b} e => ?_) h
  rw [rlt_leK] at e
  cases z : rlt b a with
  | false => rfl
  | true =>
    rw [z] at e
    cases e
theorem srtR_uniq : ∀ {l m : List D}, l.Perm m → SrtO.Srtd rlt l → SrtO.Srtd rlt m → (∀ x ∈ l, recD x = true) → l = m
  | [], m, p, _, _, _ => (List.nil_perm.mp p).symm
  | x :: l, [], p, _, _, _ => absurd (List.perm_nil.mp p) (fun z => nomatch z)
  | x :: l, y :: m, p, h1, h2, hn => by
    have hx : x ∈ y :: m := p.mem_iff.mp List.mem_cons_self
    have hy : y ∈ x :: l := p.mem_iff.mpr List.mem_cons_self
    have nx := hn x List.mem_cons_self
    have ny := hn y hy
    have e1 : rlt y x = false := by
      rcases List.mem_cons.mp hy with z | z
      · rw [z]
        exact rlt_swo.refl x
      · exact SrtO.srtd_head h1 y z
    have e2 : rlt x y = false := by
      rcases List.mem_cons.mp hx with z | z
      · rw [z]
        exact rlt_swo.refl y
      · exact SrtO.srtd_head h2 x z
    have e := rec_anti nx ny e2 e1
    subst e
    rw [srtR_uniq (p.cons_inv) (List.pairwise_cons.mp h1).2 (List.pairwise_cons.mp h2).2 fun z m => hn z (List.mem_cons_of_mem _ m)]
/-! ### keys -/
theorem live_like {l i : D} (h : liveD l = true) (h2 : liveD i = true) : alike (py l) (py i) = true := by
  obtain ⟨a, rfl, _⟩ := among_ex h
  obtain ⟨b, rfl, _⟩ := among_ex h2
  rw [py_int, py_int]
  exact alike_int _ _
theorem lex_step {x y : PyData} {xs ys : List PyData} (al : alike x y = true) (h : PyData.eqv x y = true → DLS.lexOk xs ys = true) : DLS.lexOk (x :: xs) (y :: ys) = true := by
  rw [DLS.lexOk, al, Bool.true_and]
  cases e : PyData.eqv x y with
  | false => rfl
  | true => rw [h e]; rfl
theorem lex_nil (ys : List PyData) : DLS.lexOk [] ys = true := by cases ys <;> rfl
theorem rr_ck {x : D} (h : recD x = true) : ckN 3 (rrD x) := by
  obtain ⟨n, k, l, d, rfl, hn, hk, hl, hd⟩ := rec_ex h
  refine cn_tup (n := 2) fun z m => ?_
  simp only [List.mem_cons, List.not_mem_nil, or_false] at m
  rcases m with rfl | rfl | rfl | rfl
  · exact ckup (rank_ck hn) (by decide)
  · exact cn_str 2 _
  · exact (same_of hk d d hd hd).2.2.1
  · obtain ⟨i, rfl, _⟩ := among_ex hl
    exact cn_int 2 _
theorem rec_keys {rs : List D} (h : rs.all recD = true) : okKeys rrD rs := by
  have hn : ∀ x ∈ rs, recD x = true := fun x m => List.all_eq_true.mp h x m
  refine ⟨fun d hd => ?_, .inl ⟨fun d hd => ?_, fun d hd d' hd' xs ys e1 e2 => ?_⟩, fun d m => (rr_ck (hn d m)).ck⟩
  · obtain ⟨a, ma, rfl⟩ := List.mem_map.mp hd
    obtain ⟨n, k, l, d, rfl, hn, hk, hl, hd⟩ := rec_ex (hn a ma)
    show alike (py (rrD _)) (py (rrD _)) = true
    rw [rr_py, alike_tup]
    exact alike_cons (cmp_name hn hn).al (alike_cons (alike_str _ _) (alike_cons (cmp_data hk d d hd hd).al (alike_cons (live_like hl hl) (alike_nil _))))
  · obtain ⟨a, ma, rfl⟩ := List.mem_map.mp hd
    obtain ⟨n, k, l, d, rfl, _⟩ := rec_ex (hn a ma)
    exact ⟨_, _, rr_py n k l d⟩
  · obtain ⟨a, ma, rfl⟩ := List.mem_map.mp hd
    obtain ⟨b, mb, rfl⟩ := List.mem_map.mp hd'
    obtain ⟨n, k, l, d, rfl, hn1, hk, hl, hd1⟩ := rec_ex (hn a ma)
    obtain ⟨m, j, i, e, rfl, hm, hj, hi, he⟩ := rec_ex (hn b mb)
    have e1 : py (rrD (.tup [n, .str k, l, d])) = .tuple xs := e1
    have e2 : py (rrD (.tup [m, .str j, i, e])) = .tuple ys := e2
    rw [rr_py] at e1 e2
    cases e1
    cases e2
    refine lex_step (cmp_name hn1 hm).al fun _ => lex_step (alike_str _ _) fun q => ?_
    have q : k = j := (cmp_str k j).e.mp q
    subst q
    exact lex_step (cmp_data hk d e hd1 he).al fun _ => lex_step (live_like hl hi) fun _ => lex_nil _
theorem pure_p_in_order : ∀ {ds : List D}, g_p_in_order ds S P EP → t_p_in_order K c_BadRecord c_HouseError c_BadName c_BadLine c_BadLetter c_BadChange c_BadZone c_BadTurn c_BadRow k_KINDS (EE EP) (DDs P) (startG 1 ds) S := fun {ds} h => by
  unfold g_p_in_order at h
  split at h
  · rename_i rs
    obtain ⟨⟨hr, hs⟩, h⟩ := h
    exact ⟨fun d m P EP q => ⟨List.all_eq_true.mp hr d m, q⟩, rec_keys hr, h⟩
  · exact h.elim
theorem pure_p_ordered : ∀ {ds : List D}, g_p_ordered c_BadRecord ds S P EP → t_p_ordered K c_BadRecord c_HouseError c_BadName c_BadLine c_BadLetter c_BadChange c_BadZone c_BadTurn c_BadRow k_KINDS (EE EP) (DDs P) (startG 1 ds) S := fun {ds} h => by
  unfold g_p_ordered at h
  split at h
  · rename_i x
    obtain ⟨⟨hx, hs⟩, hy, hn⟩ := h
    refine ⟨⟨hx, hs⟩, br (fun z => hn (nb z)) fun z => ?_⟩
    have z : recsD x = true := nbf z
    cases x with
    | lst rs => exact ⟨⟨z, (hs rs rfl).1⟩, hy rs rfl z⟩
    | _ => cases z
  · exact h.elim
/-! ### the law's own order -/
theorem cmp_rawname {n m : D} (hn : nameD n = true) (hm : nameD m = true) : Cmp (py n) (py m) (n = m) := by
  obtain ⟨a, rfl, _⟩ := name_ex hn
  obtain ⟨b, rfl, _⟩ := name_ex hm
  rw [name_strs hn, name_strs hm, py_strs, py_strs]
  refine (cmp_strs _ _).to ⟨fun h => by rw [h], fun h => ?_⟩
  injection h with h
  exact (List.map_inj_right fun _ _ q => by injection q).mp h
theorem eqD_name {n m : D} (hn : nameD n = true) (hm : nameD m = true) : eqD n m = true ↔ n = m := (cmp_rawname hn hm).e
theorem cmp_raw {k : Str} (hk : kindD (.str k) = true) : ∀ x y, dataD k x = true → dataD k y = true → Cmp (py x) (py y) (x = y) := by
  refine data_cases (M := fun k => ∀ x y, dataD k x = true → dataD k y = true → Cmp (py x) (py y) (x = y)) hk ?_ ?_ ?_ ?_ ?_ ?_ ?_ ?_ ?_
  · exact fun x y hx hy => cmp_data (k := ("addr" : Str)) (by decide) x y hx hy
  · exact fun x y hx hy => cmp_data (k := ("text" : Str)) (by decide) x y hx hy
  · exact fun x y hx hy => cmp_rawname (star_name hx) (star_name hy)
  · exact fun x y hx hy => cmp_rawname (star_name hx) (star_name hy)
  · exact fun x y hx hy => cmp_data (k := ("top" : Str)) (by decide) x y hx hy
  · exact fun x y hx hy => cmp_data (k := ("key" : Str)) (by decide) x y hx hy
  · exact fun x y hx hy => cmp_data (k := ("trust" : Str)) (by decide) x y hx hy
  · exact fun x y hx hy => cmp_data (k := ("seal" : Str)) (by decide) x y hx hy
  · intro x y hx hy
    obtain ⟨a, ks, rfl, ha, hks, _⟩ := gap_ex hx
    obtain ⟨b, ms, rfl, hb, hms, _⟩ := gap_ex hy
    obtain ⟨ss, rfl, _⟩ := kinds_strs hks
    obtain ⟨ts, rfl, _⟩ := kinds_strs hms
    rw [py_tup, py_tup]
    simp only [List.map_cons, List.map_nil, py_strs]
    refine (cmp_tup (cmp_cons (cmp_rawname ha hb) (cmp_cons (cmp_strs ss ts) cmp_nil))).to ⟨fun h => by rw [h.1, h.2.1], fun h => ?_⟩
    injection h with h
    injection h with h1 h2
    injection h2 with h2 _
    injection h2 with h2
    exact ⟨h1, (List.map_inj_right fun _ _ q => by injection q).mp h2, trivial⟩
theorem br_nm {A B : Prop} {n m : D} {E : Prop} (c : eqD n m = true ↔ E) (h1 : ¬ E → A) (h2 : E → B) : ((!eqD n m) = true → A) ∧ ((!eqD n m) = false → B) :=
  ⟨fun z => h1 (fun e => by
    rw [c.mpr e] at z
    cases z), fun z => h2 (c.mp (nbf z))⟩
theorem lt_pair {a b : D} {ss ts : List Str} (ha : nameD a = true) (hb : nameD b = true) (h : a ≠ b) : ltD (.tup [rankD a, .tup (ss.map D.str)]) (.tup [rankD b, .tup (ts.map D.str)]) = nlt a b := by
  unfold ltD
  rw [py_tup, py_tup]
  simp only [List.map_cons, List.map_nil]
  rw [PySem.W.dataLt_tuple, PySem.W.dataLt_all_no (cmp_name ha hb).al ((cmp_name ha hb).no h)]
  rfl
theorem lt_pair2 {a : D} {ss ts : List Str} (ha : nameD a = true) (h : ss ≠ ts) : ltD (.tup [rankD a, .tup (ss.map D.str)]) (.tup [rankD a, .tup (ts.map D.str)]) = ltD (.tup (ss.map D.str)) (.tup (ts.map D.str)) := by
  unfold ltD
  rw [py_tup [rankD a, _], py_tup [rankD a, _]]
  simp only [List.map_cons, List.map_nil, py_strs]
  rw [PySem.W.dataLt_tuple, PySem.W.dataLt_all_yes (cmp_name ha ha).al ((cmp_name ha ha).e.mpr rfl), PySem.W.dataLt_all_no (cmp_strs ss ts).al ((cmp_strs ss ts).no h)]
theorem lt_self_strs (ss : List Str) : ltD (.tup (ss.map D.str)) (.tup (ss.map D.str)) = false := by
  unfold ltD
  rw [PySem.W.dataLt]
  exact PyProof.Rows.lex_irrefl _
theorem pure_sorted : ∀ {ds : List D}, g_sorted ds S P EP → t_sorted K c_BadRecord c_HouseError c_BadName c_BadLine c_BadLetter c_BadChange c_BadZone c_BadTurn c_BadRow k_KINDS (EE EP) (DDs P) (startG 4 ds) S := fun {ds} h => by
  unfold g_sorted at h
  split at h
  · rename_i ns
    obtain ⟨⟨hn, hl⟩, h⟩ := h
    have hn' : ∀ x ∈ ns, recD x = true := fun x m => List.all_eq_true.mp hn x m
    refine ⟨Nat.zero_le _, ?_⟩
    refine forL_inv (fun r Γ S' => ∃ fs t2 t3 pre, Γ = [some (.d (.lst ns)), some (.own fs), t2, t3] ∧ S' = S ∧ ns = pre ++ r ∧ fs.Perm pre ∧ SrtO.Srtd rlt fs) ?_ ?_ ns _ S ⟨[], none, none, [], rfl, rfl, rfl, List.Perm.refl _, List.Pairwise.nil⟩
    · rintro Γ S' ⟨fs, t2, t3, pre, rfl, rfl, e, p, so⟩
      rw [List.append_nil] at e
      subst e
      have q := srtR_uniq (p.trans (sortD_perm rrD ns).symm) so (sortR_srt ns) fun x m => hn' x (p.mem_iff.mp m)
      show P (.own fs) S'
      rw [q]
      exact h
    · rintro x r Γ S' nx hnx ⟨fs, t2, t3, pre, rfl, rfl, e, p, so⟩
      have hx : recD x = true := hn' x (by rw [e]; exact List.mem_append_right _ List.mem_cons_self)
      have hf : ∀ y ∈ fs, recD y = true := fun y m => hn' y (by rw [e]; exact List.mem_append_left _ (p.mem_iff.mp m))
      have lf : fs.length ≤ 100 := by
        have := p.length_eq
        rw [e, List.length_append] at hl
        omega
      have fin : ∀ j : Nat, j ≤ fs.length → (∀ y ∈ fs.drop j, rlt x y = true) → (∀ y ∈ fs.take j, rlt x y = false) → dIns 1 (dVar 3) (dVar 2) { nx := nx, rt := P, bk := DEnds.nx (DDs P), ct := nx } [some (.d (.lst ns)), some (.own fs), some (.d x), some (.d (.int j))] S' := fun j hj h1 h2 => by
        refine ⟨(show fs.length + 1 ≤ 100000 by omega), j, rfl, hj, hnx _ _ ⟨_, _, _, pre ++ [x], rfl, rfl, by rw [e, List.append_assoc]; rfl, ?_, ?_⟩⟩
        · have q : (fs.take j ++ [x] ++ fs.drop j).Perm (fs ++ [x]) := by
            have q1 : (fs.take j ++ ([x] ++ fs.drop j)).Perm (fs.take j ++ (fs.drop j ++ [x])) := List.Perm.append_left _ List.perm_append_comm
            have e4 : fs.take j ++ (fs.drop j ++ [x]) = fs ++ [x] := by rw [← List.append_assoc, List.take_append_drop]
            rw [e4] at q1
            rw [List.append_assoc]
            exact q1
          exact q.trans (p.append_right [x])
        · rw [List.append_assoc]
          exact SrtO.ins_srtd (M := fs.take j) (N := fs.drop j) rlt_swo (by rw [List.take_append_drop]; exact so) h2 h1
      refine ⟨_, whileL_inv (fun n Γ S'' => ∃ (j : Nat), Γ = [some (.d (.lst ns)), some (.own fs), some (.d x), some (.d (.int j))] ∧ S'' = S' ∧ j ≤ fs.length ∧ n = j ∧ ∀ y ∈ fs.drop j, rlt x y = true) ?_ fs.length _ S' ⟨fs.length, rfl, rfl, Nat.le_refl _, rfl, fun y m => by rw [List.drop_of_length_le (Nat.le_refl _)] at m; cases m⟩⟩
      rintro n Γ S'' nx2 hnx2 ⟨j, rfl, rfl, hj, rfl, hd⟩
      refine br (fun h1 => ?_) fun h1 => br_f ?_
      · have h1 := of_decide_eq_true h1
        have h0 : 0 < n := by omega
        obtain ⟨d, d1, d2, d3⟩ := at_ex (xs := fs) (i := (n : Int) - 1) (by omega) (by omega)
        have d3 : fs[n - 1]? = some d := by
          rw [← d3]
          congr 1
          omega
        refine ⟨d, d1, ⟨hx, hf d d2⟩, ?_⟩
        show (rlt x d = true → _) ∧ (rlt x d = false → _)
        refine br (fun hb => ?_) fun hb => ?_
        · refine hnx2 (n - 1) _ _ (by omega) ⟨n - 1, ?_, rfl, by omega, rfl, fun y m => ?_⟩
          · show [some (W.d (.lst ns)), some (.own fs), some (.d x), some (.d (.int ((n : Int) - 1)))] = _
            rw [show (n : Int) - 1 = ((n - 1 : Nat) : Int) by omega]
          · rw [drop_cons d3, show n - 1 + 1 = n by omega] at m
            rcases List.mem_cons.mp m with rfl | m
            · exact hb
            · exact hd y m
        · refine fin n hj hd fun y m => ?_
          have e1 : fs.take n = fs.take (n - 1) ++ [d] := by
            have := List.take_add_one (l := fs) (i := n - 1)
            rw [show n - 1 + 1 = n by omega, d3] at this
            exact this
          have s1 : SrtO.Srtd rlt (fs.take (n - 1) ++ [d]) := by
            rw [← e1]
            exact so.sublist (List.take_sublist _ _)
          rw [e1] at m
          exact rlt_swo.tr y d x (rlt_swo.le_last s1 y m) hb
      · have h1 := of_decide_eq_false h1
        have h0 : n = 0 := by omega
        subst h0
        exact fin 0 hj hd fun y m => by rw [List.take_zero] at m; cases m
  · exact h.elim
end
end DL.K03
namespace DL.K03
open PySem PySem.Spec PyProof.Rows L2
section
variable {K : PySem.W.Frag} {c_BadRecord c_HouseError c_BadName c_BadLine c_BadLetter c_BadChange c_BadZone c_BadTurn c_BadRow k_KINDS : Addr} {S : Sto} {P : W → Sto → Prop} {EP : Value → Sto → Prop}
theorem dr_plain {k : Str} (h1 : k ≠ ("keeper" : Str)) (h2 : k ≠ ("other" : Str)) (h3 : k ≠ ("gap" : Str)) (x : D) : drD k x = x := by
  unfold drD
  rw [if_neg (fun q => q.elim h1 h2), if_neg h3]
theorem nck {x : D} (h : nameD x = true) : cmpOk x := (name_ck h).ck
theorem data_nr {k : Str} (hk : kindD (.str k) = true) : ∀ x, dataD k x = true → ∀ S : Sto, der S x = x := by
  have cint : ∀ {a b : Int} {x : D}, amongD x a b = true → ∀ S : Sto, der S x = x := fun {a b x} hx S => by
    obtain ⟨i, rfl, _⟩ := among_ex hx
    rfl
  have cnm : ∀ {x : D}, starlessD x = true → ∀ S : Sto, der S x = x := fun {x} hx S => by
    obtain ⟨ds, rfl⟩ := name_tup (star_name hx)
    rfl
  refine data_cases (M := fun k => ∀ x, dataD k x = true → ∀ S : Sto, der S x = x) hk ?_ ?_ ?_ ?_ ?_ ?_ ?_ ?_ ?_
  · exact fun x hx => cint hx
  · intro x hx S
    obtain ⟨a, rfl, _⟩ := words_ex hx
    rfl
  · exact fun x hx => cnm hx
  · exact fun x hx => cnm hx
  · intro x hx S
    obtain ⟨a, b, rfl, _⟩ := top_ex hx
    rfl
  · exact fun x hx => cint hx
  · exact fun x hx => cint hx
  · intro x hx S
    obtain ⟨k, b, c, rfl, _⟩ := seal_ex hx
    rfl
  · intro x hx S
    obtain ⟨a, ks, rfl, _⟩ := gap_ex hx
    rfl
theorem pure_less : ∀ {ds : List D}, g_less ds S P EP → t_less K c_BadRecord c_HouseError c_BadName c_BadLine c_BadLetter c_BadChange c_BadZone c_BadTurn c_BadRow k_KINDS (EE EP) (DDs P) (startG 3 ds) S := fun {ds} h => by
  unfold g_less at h
  split at h
  · rename_i k x y
    obtain ⟨⟨hk, hx, hy⟩, h⟩ := h
    refine ⟨ck_str _, ck_str _, br_eq (fun z => ?_) fun z => ⟨ck_str _, ck_str _, br_eq (fun z2 => ?_) fun z2 => ?_⟩⟩
    · subst z
      have hx : starlessD x = true := hx
      have hy : starlessD y = true := hy
      have h : P (.d (.bl (nlt x y))) S := h
      rw [← bef_nlt (star_name hx) (star_name hy)] at h
      exact br_t ⟨⟨star_name hx, star_name hy⟩, h⟩
    · subst z2
      have hx : starlessD x = true := hx
      have hy : starlessD y = true := hy
      have h : P (.d (.bl (nlt x y))) S := h
      rw [← bef_nlt (star_name hx) (star_name hy)] at h
      exact ⟨⟨star_name hx, star_name hy⟩, h⟩
    by_cases z3 : k = ("gap" : Str)
    · subst z3
      obtain ⟨a, ks, rfl, ha, hks, _⟩ := gap_ex hx
      obtain ⟨b, ms, rfl, hb, hms, _⟩ := gap_ex hy
      obtain ⟨ss, rfl, _⟩ := kinds_strs hks
      obtain ⟨ts, rfl, _⟩ := kinds_strs hms
      obtain ⟨as, rfl⟩ := name_tup ha
      obtain ⟨bs, rfl⟩ := name_tup hb
      have h : P (.d (.bl (ltD (.tup [rankD (.tup as), .tup (ss.map D.str)]) (.tup [rankD (.tup bs), .tup (ts.map D.str)])))) S := h
      refine ⟨ck_str _, ck_str _, br_eq (fun _ => ?_) fun q => absurd rfl q⟩
      refine ⟨_, rfl, _, rfl, nck ha, nck hb, br_nm (eqD_name ha hb) (fun q => ?_) fun q => ?_⟩
      · rw [lt_pair ha hb q, ← bef_nlt ha hb] at h
        exact ⟨_, rfl, _, rfl, ⟨ha, hb⟩, h⟩
      · have q : as = bs := by injection q
        subst q
        have hst : ∀ us : List Str, cmpOk (.tup (us.map D.str)) := fun us => (cn_tup (n := 0) fun d m => by
          obtain ⟨s, _, rfl⟩ := List.mem_map.mp m
          exact cn_str 0 s).ck
        refine ⟨ck_str _, ck_str _, br_eq (fun _ => ?_) fun q => absurd rfl q⟩
        refine ⟨_, rfl, _, rfl, hst ss, hst ts, ⟨?_, ?_⟩, ?_⟩
        · show PySem.W.alike (py (.tup (ss.map D.str))) (py (.tup (ts.map D.str))) = true
          rw [py_strs, py_strs]
          exact (cmp_strs ss ts).al
        · show py (.tup (ss.map D.str)) ≠ .none
          rw [py_strs]
          exact fun z => nomatch z
        · show P (.d (.bl (ltD (.tup (ss.map D.str)) (.tup (ts.map D.str))))) S
          by_cases e : ss = ts
          · subst e
            rw [lt_self_strs]
            have e2 : ltD (.tup [rankD (.tup as), .tup (ss.map D.str)]) (.tup [rankD (.tup as), .tup (ss.map D.str)]) = false := by
              unfold ltD
              rw [PySem.W.dataLt]
              exact PyProof.Rows.lex_irrefl _
            rw [e2] at h
            exact h
          · rw [lt_pair2 ha e] at h
            exact h
    · refine ⟨ck_str _, ck_str _, br_eq (fun q => absurd q z3) fun _ => br_f ?_⟩
      refine ⟨ck_str _, ck_str _, br_eq (fun q => absurd q z3) fun _ => ?_⟩
      obtain ⟨q1, _, _, q4, q5⟩ := same_of hk x y hx hy
      obtain ⟨_, _, _, q6, _⟩ := same_of hk y x hy hx
      rw [dr_plain z z2 z3, dr_plain z z2 z3] at q1
      rw [dr_plain z z2 z3] at q5
      rw [dr_plain z z2 z3, dr_plain z z2 z3] at h
      have nx := data_nr hk x hx S
      have ny := data_nr hk y hy S
      exact ⟨by rw [nx]; exact q4.ck, by rw [ny]; exact q6.ck, by rw [nx, ny]; exact ⟨q1, q5⟩, by rw [nx, ny]; exact h⟩
  · exact h.elim
theorem pure_ahead : ∀ {ds : List D}, g_ahead ds S P EP → t_ahead K c_BadRecord c_HouseError c_BadName c_BadLine c_BadLetter c_BadChange c_BadZone c_BadTurn c_BadRow k_KINDS (EE EP) (DDs P) (startG 2 ds) S
  | [], h => h.elim
  | [_], h => h.elim
  | _ :: _ :: _ :: _, h => h.elim
  | [x, y], ⟨⟨hx, hy⟩, h⟩ => by
    obtain ⟨n, k, l, d, rfl, hn, hk, hl, hd⟩ := rec_ex hx
    obtain ⟨m, j, i, e, rfl, hm, hj, hi, he⟩ := rec_ex hy
    obtain ⟨ns, rfl⟩ := name_tup hn
    obtain ⟨ms, rfl⟩ := name_tup hm
    have h : P (.d (.bl (ltD (rrD (.tup [.tup ns, .str k, l, d])) (rrD (.tup [.tup ms, .str j, i, e]))))) S := h
    refine ⟨_, rfl, _, rfl, nck hn, nck hm, br_nm (eqD_name hn hm) (fun q => ?_) fun q => ?_⟩
    · rw [rlt_n hn hm q, ← bef_nlt hn hm] at h
      exact ⟨_, rfl, _, rfl, ⟨hn, hm⟩, h⟩
    have q : ns = ms := by injection q
    subst q
    refine ⟨_, rfl, _, rfl, ck_str _, ck_str _, br_ne (fun q => ?_) fun q => ?_⟩
    · rw [rlt_k q hn] at h
      exact ⟨_, rfl, _, rfl, h⟩
    subst q
    obtain ⟨_, _, _, q4, _⟩ := same_of hk d e hd he
    obtain ⟨_, _, _, q6, _⟩ := same_of hk e d he hd
    have nx := data_nr hk d hd S
    have ny := data_nr hk e he S
    refine ⟨_, rfl, _, rfl, by rw [nx]; exact q4.ck, by rw [ny]; exact q6.ck, ?_⟩
    rw [nx, ny]
    refine br_nm (cmp_raw hk d e hd he).e (fun q => ?_) fun q => ?_
    · rw [rlt_d q hn hk hd he] at h
      exact ⟨_, rfl, _, rfl, _, rfl, ⟨hk, hd, he⟩, h⟩
    subst q
    obtain ⟨a, rfl, _⟩ := among_ex hl
    obtain ⟨b, rfl, _⟩ := among_ex hi
    rw [rlt_l hn hk hd] at h
    exact ⟨_, rfl, _, rfl, h⟩
theorem pure_among : ∀ {ds : List D}, g_among ds S P EP → t_among K c_BadRecord c_HouseError c_BadName c_BadLine c_BadLetter c_BadChange c_BadZone c_BadTurn c_BadRow k_KINDS (EE EP) (DDs P) (startG 3 ds) S := fun {ds} h => by
  unfold g_among at h
  split at h
  · rename_i x a b
    obtain ⟨hx, h⟩ := h
    cases x with
    | int i =>
      refine ⟨true, rfl, br_t ⟨false, rfl, br_t (br (fun z => ?_) fun z => ?_)⟩⟩
      · have h : P (.d (.bl (decide (a ≤ i) && decide (i ≤ b)))) S := h
        rw [show decide (a ≤ i) = true from z, Bool.true_and] at h
        exact h
      · have h : P (.d (.bl (decide (a ≤ i) && decide (i ≤ b)))) S := h
        rw [show decide (a ≤ i) = false from z, Bool.false_and] at h
        exact h
    | bl k => exact ⟨true, rfl, br_t ⟨true, rfl, br_f h⟩⟩
    | ref _ => cases hx
    | exc _ => cases hx
    | val _ => cases hx
    | _ => exact ⟨false, rfl, br_f h⟩
  · exact h.elim
theorem pure_kinds : ∀ {ds : List D}, g_kinds ds S P EP → t_kinds K c_BadRecord c_HouseError c_BadName c_BadLine c_BadLetter c_BadChange c_BadZone c_BadTurn c_BadRow k_KINDS (EE EP) (DDs P) (startG 0 ds) S
  | _ :: _, h => h.elim
  | [], h => ⟨(by decide : (9 : Nat) ≤ 100000), h⟩
theorem pure_is_kind : ∀ {ds : List D}, g_is_kind ds S P EP → t_is_kind K c_BadRecord c_HouseError c_BadName c_BadLine c_BadLetter c_BadChange c_BadZone c_BadTurn c_BadRow k_KINDS (EE EP) (DDs P) (startG 1 ds) S
  | [], h => h.elim
  | _ :: _ :: _, h => h.elim
  | [x], ⟨hx, h⟩ => by
    cases x with
    | str s =>
      refine ⟨true, rfl, br_t ⟨ck_str _, rfl, ?_⟩⟩
      have h : P (.d (.bl (kindD (.str s)))) S := h
      rw [← kind_any] at h
      exact h
    | ref _ => cases hx
    | exc _ => cases hx
    | val _ => cases hx
    | _ => exact ⟨false, rfl, br_f h⟩
/-! ### draws -/
theorem pure_great : ∀ {ds : List D}, g_great ds S P EP → t_great K c_BadRecord c_HouseError c_BadName c_BadLine c_BadLetter c_BadChange c_BadZone c_BadTurn c_BadRow k_KINDS (EE EP) (DDs P) (startG 4 ds) S := fun {ds} h => by
  unfold g_great at h
  split at h
  · rename_i m
    obtain ⟨⟨m0, m1⟩, n, hD, hn, h⟩ := h
    refine next_g (EP := EP) hD (by omega) fun r S1 hD1 r0 r1 => ?_
    refine ⟨cmul_r (by decide) (by decide), ?_⟩
    refine next_g (EP := EP) hD1 (by omega) fun r2 S2 hD2 r20 r21 => ?_
    refine ⟨cmul_r (by decide) (by decide), ?_⟩
    refine next_g (EP := EP) hD2 (by omega) fun r3 S3 hD3 r30 r31 => ?_
    have hm := mod_rng r (m := 7) (by decide)
    have a := mod_rng ((r * 268435399 + r2) * 268435399 + r3) (m := m + 1) (by omega)
    have b := mod_rng (r % 300) (m := m + 1) (by omega)
    obtain ⟨d, e, md, _⟩ := at_ex (xs := [D.int 0, .int 1, .int m, .int (m - 1), .int (((r * 268435399 + r2) * 268435399 + r3) % (m + 1)), .int (((r * 268435399 + r2) * 268435399 + r3) % (m + 1)), .int (r % 300 % (m + 1))]) hm.1 hm.2
    have hd : ∃ z : Int, d = .int z ∧ 0 ≤ z ∧ z ≤ m := by
      simp only [List.mem_cons, List.not_mem_nil, or_false] at md
      rcases md with rfl | rfl | rfl | rfl | rfl | rfl | rfl
      · exact ⟨_, rfl, by omega, by omega⟩
      · exact ⟨_, rfl, by omega, by omega⟩
      · exact ⟨_, rfl, by omega, by omega⟩
      · exact ⟨_, rfl, by omega, by omega⟩
      · exact ⟨_, rfl, a.1, by have := a.2; omega⟩
      · exact ⟨_, rfl, a.1, by have := a.2; omega⟩
      · exact ⟨_, rfl, b.1, by have := b.2; omega⟩
    obtain ⟨z, rfl, z0, z1⟩ := hd
    refine ⟨(show (0 : Int) < m + 1 by omega), (show (0 : Int) < m + 1 by omega), (by decide : (0 : Int) < 300), (show (0 : Int) < m + 1 by omega), (by decide : (7 : Nat) ≤ 100000), (by decide : (0 : Int) < 7), _, e, h z S3 z0 z1 (hD3.mono (by omega))⟩
  · exact h.elim
theorem pure_plain : ∀ {ds : List D}, g_plain ds S P EP → t_plain K c_BadRecord c_HouseError c_BadName c_BadLine c_BadLetter c_BadChange c_BadZone c_BadTurn c_BadRow k_KINDS (EE EP) (DDs P) (startG 3 ds) S := fun {ds} h => by
  unfold g_plain at h
  split at h
  · rename_i l
    obtain ⟨n, hD, hn, hL, h⟩ := h
    refine ⟨n, hD, hn, hL, fun x S1 hx hD1 => ?_⟩
    have hx : nameD x = true := hx
    obtain ⟨ds, rfl, hl, h1, h2⟩ := name_ex hx
    have hc : cmpOk (.tup (cutL ds none (some 1))) := (cn_tup (n := 0) fun d m => by
      obtain ⟨s, rfl, _⟩ := name_lbl h1 h2 d (cut_sub m)
      exact cn_str 0 s).ck
    refine ⟨(by decide : (1 : Nat) ≤ 100000), hc, (cn_tup (n := 0) fun d m => by
      rw [List.mem_singleton.mp m]
      exact cn_str 0 _).ck, br (fun z => ?_) fun z => ?_⟩
    · refine h _ S1 ?_ hD1
      have hp : (ds.drop 1).all plainD = true := h2
      have hn' : nameD (.tup (cutL ds (some 1) none)) = true := by
        rw [cut_from1]
        refine name_of_plain (by rw [List.length_drop]; omega) fun d m => List.all_eq_true.mp hp d m
      show (nameD _ && !eqD (.tup ((cutL ds (some 1) none).take 1)) (.tup [.str ("*" : Str)])) = true
      rw [hn', Bool.true_and, cut_from1]
      cases e : ds.drop 1 with
      | nil => rfl
      | cons d r =>
        have pd : plainD d = true := List.all_eq_true.mp hp d (by rw [e]; exact .head _)
        obtain ⟨s, rfl, ps⟩ := plain_str pd
        show (!eqD (.tup [.str s]) (.tup [.str ("*" : Str)])) = true
        cases q : eqD (.tup [.str s]) (.tup [.str ("*" : Str)]) with
        | false => rfl
        | true =>
          have q : PyData.eqv (py (.tup [.str s])) (py (.tup [.str ("*" : Str)])) = true := q
          rw [py_tup, py_tup, eqv_tup] at q
          simp only [List.map_cons, List.map_nil, PyData.eqvAll, Bool.and_eq_true, py_str, str_eq, decide_eq_true_eq] at q
          have q1 := q.1
          subst q1
          revert ps
          decide
    · refine h _ S1 ?_ hD1
      show (nameD (.tup ds) && !eqD (.tup (ds.take 1)) (.tup [.str ("*" : Str)])) = true
      rw [hx, ← cut_to1, Bool.true_and]
      have z : eqD (.tup (cutL ds none (some 1))) (.tup [.str ("*" : Str)]) = false := z
      rw [z]
      rfl
  · exact h.elim
end
end DL.K03
namespace DL.K03
open PySem PySem.Spec PyProof.Rows L2
section
variable {K : PySem.W.Frag} {c_BadRecord c_HouseError c_BadName c_BadLine c_BadLetter c_BadChange c_BadZone c_BadTurn c_BadRow k_KINDS : Addr} {S : Sto} {P : W → Sto → Prop} {EP : Value → Sto → Prop}
abbrev cPRINT : Str := (" !\"#$&'()*+,-./0123456789:;<=>?\u0040[\\]^_`{|}~ABCDEFGHIJKLMNOPQRSTUVWXYZabcdefghijklmnopqrstuvwxyz" : Str)
theorem print_len : cPRINT.length = 94 := by decide
theorem print_all : cPRINT.cps.toList.all printOk = true := by decide
theorem print_at {i : Int} (h0 : 0 ≤ i) (h1 : i < (cPRINT.length : Int)) : ∃ c, atI cPRINT.cps.toList i = some c ∧ printOk c = true := by
  obtain ⟨c, e, m, _⟩ := at_ex (xs := cPRINT.cps.toList) h0 h1
  exact ⟨c, e, List.all_eq_true.mp print_all c m⟩
theorem pure_text : ∀ {ds : List D}, g_text ds S P EP → t_text K c_BadRecord c_HouseError c_BadName c_BadLine c_BadLetter c_BadChange c_BadZone c_BadTurn c_BadRow k_KINDS (EE EP) (DDs P) (startG 5 ds) S := fun {ds} h => by
  unfold g_text at h
  split at h
  · rename_i n z
    obtain ⟨⟨z0, z1⟩, h⟩ := h
    have lp : (0 : Int) < (cPRINT.length : Int) := by decide
    refine ⟨(by decide : cPRINT.length ≤ 100000), Int.le_trans (by decide) z0, Int.lt_of_le_of_lt z1 (by decide), compL_inv (fun k acc S' => S' = S ∧ ∃ cs : List Nat, acc = cs.map sg1 ∧ cs.length = k ∧ cs.all printOk = true) (intsFrom 0 z.toNat) 0 [] S ⟨rfl, [], rfl, rfl, rfl⟩ (fun x m k acc S' Q hI q => ?_) (by rw [ints_len]; show 0 + _ ≤ 100000; omega) fun acc' S' hl hI => ?_⟩
    · obtain ⟨i, rfl, h0, h8⟩ := ints_mem m
      obtain ⟨rfl, cs, rfl, hk, ha⟩ := hI
      have hr := mod_rng (n / 7 + 13 * i * i + 5 * i) (m := (cPRINT.length : Int)) lp
      obtain ⟨c, e, hc⟩ := print_at hr.1 hr.2
      refine ⟨cdiv, cmul_l, cmul_r (by omega) (by omega), cmul_l, lp, (by decide : cPRINT.length ≤ 100000), c, e, q _ _ ⟨rfl, cs ++ [c], ?_, ?_, ?_⟩⟩
      · rw [List.map_append]
        rfl
      · rw [List.length_append, hk]
        rfl
      · rw [List.all_append, ha, List.all_cons, hc]
        rfl
    · obtain ⟨rfl, cs, rfl, hk, ha⟩ := hI
      rw [ints_len] at hk
      have hl : cs.length ≤ 30 := by omega
      refine ⟨_, sg_strs cs, ?_, ?_⟩
      · rw [sg_sum]
        have : (List.map (fun c => (⟨#[c]⟩ : Str)) cs).length * ("" : Str).length = 0 := rfl
        rw [this]
        show _ ≤ _
        omega
      · rw [sg_join]
        refine h _ ?_
        show (decide (((⟨cs.toArray⟩ : Str).length : Int) ≤ 30) && (⟨cs.toArray⟩ : Str).cps.toList.all printOk) = true
        rw [show (⟨cs.toArray⟩ : Str).cps.toList = cs from List.toList_toArray, ha, decide_eq_true (by rw [SX.S_len]; omega)]
        rfl
  · exact h.elim
end
section
variable {K : PySem.W.Frag} {c_BadRecord c_HouseError c_BadName c_BadLine c_BadLetter c_BadChange c_BadZone c_BadTurn c_BadRow k_KINDS : Addr} {S : Sto} {P : W → Sto → Prop} {EP : Value → Sto → Prop}
theorem str_lt_of {a b : Str} (h : strLt b a = false) (n : a ≠ b) : strLt a b = true := by
  cases q : strLt a b with
  | true => rfl
  | false => exact absurd (str_total q h) n
theorem rise_of : ∀ (p : Str) (r : List Str), risingS p r = true → (p :: r).Nodup → rising ((p :: r).map D.str) = true
  | p, [], _, _ => by
    rfl
  | p, x :: r, h, nd => by
    rw [risingS, Bool.and_eq_true] at h
    obtain ⟨n1, n2⟩ := List.nodup_cons.mp nd
    have ih := rise_of x r h.2 n2
    show rising (.str p :: .str x :: r.map D.str) = true
    have hl : strLt x p = false := by
      unfold strLt
      rw [← ltCps_eq]
      simpa using h.1
    rw [rising, str_lt_of hl (fun e => n1 (by rw [e]; exact .head _)), Bool.true_and]
    exact ih
theorem rise_sorted {ys : List Str} (h : sortedS ys = true) (nd : ys.Nodup) : rising (ys.map D.str) = true := by
  cases ys with
  | nil => rfl
  | cons p r => exact rise_of p r h nd
/-- the kinds that are drawn -/
theorem kinds_drawn {Q : List D → Sto → Prop} {n : Int} {a1 a2 a3 a4 a5 a6 : Option W} : ∀ (ss : List Str) (acc : List D) (m : Int) (S : Sto), Dr m S → m + ss.length ≤ n → n < 900000000 → sz (acc.length + ss.length) →
    (∀ ts S', List.Sublist ts ss → Dr n S' → Q (acc ++ ts.map D.str) S') →
    compL (dgName 6) (dT (dOp fEq (dOp fMod (dCallS g_next ew0 (dCons (dVar 0) dNil)) (dC (.int 3))) (dC (.int 0)))) (dVar 6) (ss.map D.str) [some (.d (.ref 0)), a1, a2, a3, a4, a5, a6] acc S Q
  | [], acc, m, S, hD, hm, _, _, q => by
    have := q [] S (.slnil) (hD.mono (by have : m + ((0 : Nat) : Int) ≤ n := hm; omega))
    rw [List.map_nil, List.append_nil] at this
    exact this
  | s :: ss, acc, m, S, hD, hm, hn, hs, q => by
    rw [List.length_cons] at hm hs
    have hs : acc.length + (ss.length + 1) ≤ 100000 := hs
    refine next_g (EP := fun _ _ => False) hD (by omega) fun r S1 hD1 r0 r1 => ?_
    refine ⟨(by decide : (0 : Int) < 3), ck_int _, ck_int _, br (fun z => ?_) fun z => ?_⟩
    · refine ⟨(show _ ≤ 100000 by omega), kinds_drawn ss (acc ++ [.str s]) (m + 1) S1 hD1 (by omega) hn (show _ ≤ 100000 by rw [List.length_append]; show _ + 1 + _ ≤ _; omega) fun ts S' hsub hD' => ?_⟩
      have := q (s :: ts) S' (hsub.cons₂ s) hD'
      rw [List.append_assoc]
      exact this
    · exact kinds_drawn ss acc (m + 1) S1 hD1 (by omega) hn (show _ ≤ 100000 by omega) fun ts S' hsub hD' => q ts S' (hsub.cons s) hD'
theorem kinds_len : kinds9.length = 9 := rfl
theorem kinds_nd : kinds9.Nodup := by decide
theorem strs_mp : ∀ ss : List Str, strsOf (ss.map D.str) = some ss
  | [] => rfl
  | s :: ss => by
    show (strsOf (ss.map D.str)).map (s :: ·) = _
    rw [strs_mp ss]
    rfl
theorem pow64 : (2 : Int) ^ (64 : Int).toNat - 1 = 18446744073709551615 := by decide
theorem pow32 : (2 : Int) ^ (32 : Int).toNat - 1 = 4294967295 := by decide
theorem pow12 : (10 : Int) ^ (12 : Int).toNat - 1 = 999999999999 := by decide
theorem pow6 : (10 : Int) ^ (6 : Int).toNat = 1000000 := by decide
theorem among_ok {i a b : Int} (h0 : a ≤ i) (h1 : i ≤ b) : amongD (.int i) a b = true := by
  show (decide (a ≤ i) && decide (i ≤ b)) = true
  rw [decide_eq_true h0, decide_eq_true h1]
  rfl
theorem great_g {n m : Int} (hD : Dr n S) (hn : n < 900000000) (m0 : 0 < m) (m1 : m < 2 ^ 70) {P : W → Sto → Prop} (h : ∀ r S', 0 ≤ r → r ≤ m → Dr (n + 3) S' → P (.d (.int r)) S') : g_great [.ref 0, .int m] S P EP :=
  ⟨⟨m0, m1⟩, n, hD, hn, h⟩
theorem pure_data : ∀ {ds : List D}, g_data ds S P EP → t_data K c_BadRecord c_HouseError c_BadName c_BadLine c_BadLetter c_BadChange c_BadZone c_BadTurn c_BadRow k_KINDS (EE EP) (DDs P) (startG 7 ds) S := fun {ds} h => by
  unfold g_data at h
  split at h
  · rename_i k l
    obtain ⟨n, hD, hn, hL, hk, h⟩ := h
    refine next_g (EP := EP) hD (by omega) fun r S1 hD1 r0 r1 => ?_
    refine ⟨ck_str _, ck_str _, br_eq (fun z => ?_) fun z => ?_⟩
    · subst z
      refine ⟨⟨by decide, by decide, by decide⟩, great_g (EP := EP) hD1 (by omega) (by decide) (by decide) fun i S' i0 i1 hD' => h _ S' ?_ (hD'.mono (by omega))⟩
      exact among_ok i0 (by rw [← pow64]; exact i1)
    refine ⟨ck_str _, ck_str _, br_eq (fun z => ?_) fun z => ?_⟩
    · subst z
      have m3 := mod_rng r (m := 3) (by decide)
      have m31 := mod_rng (r / 7) (m := 31) (by decide)
      obtain ⟨d, e, md, _⟩ := at_ex (xs := [D.int 0, .int 30, .int (r / 7 % 31)]) m3.1 m3.2
      have hd : ∃ z : Int, d = .int z ∧ 0 ≤ z ∧ z ≤ 30 := by
        simp only [List.mem_cons, List.not_mem_nil, or_false] at md
        rcases md with rfl | rfl | rfl
        · exact ⟨_, rfl, by decide, by decide⟩
        · exact ⟨_, rfl, by decide, by decide⟩
        · exact ⟨_, rfl, m31.1, by omega⟩
      obtain ⟨z, rfl, z0, z1⟩ := hd
      exact ⟨cdiv, (by decide : (0 : Int) < 31), (by decide : (3 : Nat) ≤ 100000), (by decide : (0 : Int) < 3), _, e, ⟨z0, z1⟩, fun x hx => h x S1 hx (hD1.mono (by omega))⟩
    have plain : ∀ (P2 : W → Sto → Prop), (∀ x S', starlessD x = true → Dr (n + 30) S' → P2 (.d x) S') → g_plain [.ref 0, l] S1 P2 EP := fun P2 q => ⟨n + 1, hD1, by omega, hL, fun x S' hx hD' => q x S' hx (hD'.mono (by omega))⟩
    refine ⟨ck_str _, ck_str _, br_eq (fun z => ?_) fun z => ⟨ck_str _, ck_str _, br_eq (fun z2 => ?_) fun z2 => ?_⟩⟩
    · subst z
      exact br_t (plain _ fun x S' hx hD' => h x S' hx hD')
    · subst z2
      exact plain _ fun x S' hx hD' => h x S' hx hD'
    refine ⟨ck_str _, ck_str _, br_eq (fun z => ?_) fun z => ?_⟩
    · subst z
      refine ⟨⟨by decide, by decide, by decide⟩, great_g (EP := EP) hD1 (by omega) (by decide) (by decide) fun i S2 i0 i1 hD2 => ?_⟩
      refine ⟨⟨by decide, by decide, by decide⟩, great_g (EP := EP) hD2 (by omega) (by decide) (by decide) fun j S3 j0 j1 hD3 => ?_⟩
      refine ⟨(by decide : (2 : Nat) ≤ 100000), h _ S3 ?_ (hD3.mono (by omega))⟩
      show (amongD (.int i) 0 4294967295 && amongD (.int j) 0 1000000) = true
      rw [among_ok i0 (by rw [← pow32]; exact i1), among_ok j0 (by rw [← pow6]; exact j1)]
      rfl
    refine ⟨ck_str _, ck_str _, br_eq (fun z => ?_) fun z => ?_⟩
    · subst z
      refine compL_filter (i := 6) (tt := dT (dOp fNe (dVar 6) (dC (.str ("seal" : Str))))) (te := dVar 6) (Γ := [some (.d (.ref 0)), some (.d (.str ("seal" : Str))), some (.d l), some (.d (.int r)), none, none, none]) (S := S1) (fun d => !eqD d (.str ("seal" : Str))) (fun d => d) (kinds9.map D.str) [] ?_ ?_ (show 0 + 9 ≤ 100000 by decide) ?_
      · intro d m Q q
        obtain ⟨s, _, rfl⟩ := List.mem_map.mp m
        exact ⟨ck_str _, ck_str _, q⟩
      · exact fun d m _ Q q => q
      rw [List.map_id', List.nil_append]
      have m8 := mod_rng r (m := 8) (by decide)
      have l8 : ((kinds9.map D.str).filter fun d => !eqD d (.str ("seal" : Str))).length = 8 := by decide
      obtain ⟨d, e, md, _⟩ := at_ex (xs := (kinds9.map D.str).filter fun d => !eqD d (.str ("seal" : Str))) m8.1 (by rw [l8]; exact m8.2)
      obtain ⟨md1, md2⟩ := List.mem_filter.mp md
      obtain ⟨s, ms, rfl⟩ := List.mem_map.mp md1
      refine ⟨(by decide : (0 : Int) < 8), _, e, ⟨by decide, by decide, by decide⟩, great_g (EP := EP) hD1 (by omega) (by decide) (by decide) fun i S2 i0 i1 hD2 => ?_⟩
      refine great_g (EP := EP) hD2 (by omega) (by decide) (by decide) fun j S3 j0 j1 hD3 => ?_
      refine ⟨(by decide : (3 : Nat) ≤ 100000), h _ S3 ?_ (hD3.mono (by omega))⟩
      show (kindD (.str s) && !eqD (.str s) (.str ("seal" : Str)) && amongD (.int (1 + i)) 1 1000000000000 && amongD (.int j) 0 1000000006) = true
      have hi : i ≤ 999999999999 := by rw [← pow12]; exact i1
      rw [show kindD (.str s) = true from decide_eq_true ms, md2, among_ok (by omega) (by omega), among_ok j0 j1]
      rfl
    refine ⟨ck_str _, ck_str _, br_eq (fun z => ?_) fun z => ?_⟩
    · subst z
      refine kinds_drawn (n := n + 1 + 9) kinds9 [] (n + 1) S1 hD1 (by rw [kinds_len]; omega) (by omega) (show 0 + 9 ≤ 100000 by decide) fun ts S2 hsub hD2 => ?_
      rw [List.nil_append]
      refine ⟨n + 1 + 9, hD2, by omega, hL, fun x S3 hx hD3 => ?_⟩
      have hx : nameD x = true := hx
      have lt9 : ts.length ≤ 9 := hsub.length_le
      refine ⟨ts, strs_mp ts, by omega, fun ys pm so => ⟨(by decide : (2 : Nat) ≤ 100000), h _ S3 ?_ (hD3.mono (by omega))⟩⟩
      show (nameD x && (ys.map D.str).all kindD && rising (ys.map D.str)) = true
      have nd : ys.Nodup := pm.nodup_iff.mpr (kinds_nd.sublist hsub)
      have ka : (ys.map D.str).all kindD = true := List.all_eq_true.mpr fun d m => by
        obtain ⟨s, ms, rfl⟩ := List.mem_map.mp m
        exact decide_eq_true (hsub.subset (pm.mem_iff.mp ms))
      rw [hx, ka, rise_sorted so nd]
      rfl
    refine ⟨⟨by decide, by decide, by decide⟩, great_g (EP := EP) hD1 (by omega) (by decide) (by decide) fun i S2 i0 i1 hD2 => h _ S2 ?_ (hD2.mono (by omega))⟩
    have hi : i ≤ 999999999999 := by rw [← pow12]; exact i1
    have q : amongD (.int (1 + i)) 1 1000000000000 = true := among_ok (by omega) (by omega)
    have hk9 : k ∈ kinds9 := of_decide_eq_true hk
    simp only [kinds9, List.mem_cons, List.not_mem_nil, or_false] at hk9
    rcases hk9 with rfl | rfl | rfl | rfl | rfl | rfl | rfl | rfl | rfl <;> first | exact q | contradiction
  · exact h.elim
theorem pure_record : ∀ {ds : List D}, g_record ds S P EP → t_record K c_BadRecord c_HouseError c_BadName c_BadLine c_BadLetter c_BadChange c_BadZone c_BadTurn c_BadRow k_KINDS (EE EP) (DDs P) (startG 3 ds) S := fun {ds} h => by
  unfold g_record at h
  split at h
  · rename_i l
    obtain ⟨n, hD, hn, hL, h⟩ := h
    refine next_g (EP := EP) hD (by omega) fun r S1 hD1 r0 r1 => ?_
    have m9 := mod_rng r (m := 9) (by decide)
    obtain ⟨d, e, md, _⟩ := at_ex (xs := kinds9.map D.str) m9.1 (by rw [List.length_map, kinds_len]; exact m9.2)
    obtain ⟨k, mk, rfl⟩ := List.mem_map.mp md
    have hk : kindD (.str k) = true := decide_eq_true mk
    refine ⟨(by decide : (0 : Int) < 9), _, e, n + 1, hD1, by omega, hL, fun x S2 hx hD2 => ?_⟩
    have hx : nameD x = true := hx
    refine ⟨⟨by decide, by decide, by decide⟩, great_g (EP := EP) hD2 (by omega) (by decide) (by decide) fun i S3 i0 i1 hD3 => ?_⟩
    refine ⟨_, hD3, by omega, hL, hk, fun y S4 hy hD4 => ⟨(by decide : (4 : Nat) ≤ 100000), h _ S4 ?_ (hD4.mono (by omega))⟩⟩
    show (nameD x && kindD (.str k) && amongD (.int i) 0 1000000 && dataD k y) = true
    rw [hx, hk, among_ok i0 (by rw [← pow6]; exact i1), hy]
    rfl
  · exact h.elim
end
end DL.K03
namespace DL.K03
open PySem PySem.Spec PyProof.Rows L2
section
variable {K : PySem.W.Frag} {c_BadRecord c_HouseError c_BadName c_BadLine c_BadLetter c_BadChange c_BadZone c_BadTurn c_BadRow k_KINDS : Addr} {S : Sto} {P : W → Sto → Prop} {EP : Value → Sto → Prop}
/-- a label, by hand: the star may stand at the first place -/
def labAt (b : Bool) (i : Int) (d : D) : Bool := plainD d || (b && decide (i = 0) && eqD d (.str ("*" : Str)))
def namesAt (b : Bool) : Int → List D → Bool
  | _, [] => true
  | i, d :: ds => labAt b i d && namesAt b (i + 1) ds
theorem names_rest (b : Bool) : ∀ (ds : List D) (i : Int), 1 ≤ i → namesAt b i ds = ds.all plainD
  | [], _, _ => rfl
  | d :: ds, i, h => by
    show (labAt b i d && namesAt b (i + 1) ds) = (plainD d && ds.all plainD)
    rw [names_rest b ds (i + 1) (by omega)]
    unfold labAt
    rw [decide_eq_false (by omega : ¬ i = 0), Bool.and_false, Bool.false_and, Bool.or_false]
theorem plain_no_star {d : D} (h : plainD d = true) : eqD d (.str ("*" : Str)) = false := by
  obtain ⟨s, rfl, ps⟩ := plain_str h
  have e : eqD (.str s) (.str ("*" : Str)) = decide (s = ("*" : Str)) := str_eq
  rw [e]
  refine decide_eq_false fun q => ?_
  subst q
  revert ps
  decide
theorem label_is (d : D) (h : ∃ s, d = .str s) : labelD d = (plainD d || eqD d (.str ("*" : Str))) := by
  obtain ⟨s, rfl⟩ := h
  show (plainS s || (s == ("*" : Str))) = (plainS s || eqD (.str s) (.str ("*" : Str)))
  have e : eqD (.str s) (.str ("*" : Str)) = decide (s = ("*" : Str)) := str_eq
  rw [e]
  congr 1
def outD (d : D) : Bool := match d with
  | .str x => !(x.cps.toList.all signOk)
  | _ => false
theorem out_all : ∀ cs : List Nat, ((cs.map fun c => D.str ⟨#[c]⟩).filter outD).isEmpty = cs.all signOk
  | [] => rfl
  | c :: cs => by
    have e : outD (.str ⟨#[c]⟩) = !signOk c := by
      show (!([c].all signOk)) = _
      rw [List.all_cons, List.all_nil, Bool.and_true]
    rw [List.map_cons, List.all_cons]
    cases q : signOk c with
    | true =>
      rw [List.filter_cons_of_neg (by rw [e, q]; decide), out_all cs, Bool.true_and]
    | false =>
      rw [List.filter_cons_of_pos (by rw [e, q]; rfl)]
      rfl
theorem name_tail {DD : DEnds} {t0 t1 t2 t5 : Option W} (s : Str) (hs : s.length ≤ 100000) (star : Bool) (hb : s.cps.toList.all signOk = false → star = false → DD.rt (.d (.bl false)) S)
    (hg : (s.cps.toList.all signOk = true ∨ star = true) → DD.nx [t0, t1, t2, some (.d (.str s)), some (.d (.bl star)), t5] S) :
    (dIfS (dTAnd (dT (dOp fNe (dFz (dComp (dWs (dVar 3)) (dgName 5) (dT (dOp (fIn true) (dVar 5) (dCallS g_signs ew0 dNil))) (dVar 5) [5])) (dFz (dLst dNil)))) (dTNot (dT (dVar 4)))) (dRet (dC (.bl false))) (dNext)) DD [t0, t1, t2, some (.d (.str s)), some (.d (.bl star)), t5] S := by
  refine compL_filter (i := 5) (tt := dT (dOp (fIn true) (dVar 5) (dCallS g_signs ew0 dNil))) (te := dVar 5) (Γ := [t0, t1, t2, some (.d (.str s)), some (.d (.bl star)), none]) (S := S) outD (fun d => d) (signsOf s) [] ?_ ?_ ?_ ?_
  · intro d m Q q
    obtain ⟨c, _, rfl⟩ := List.mem_map.mp m
    have q : Q (!([c].all signOk)) S := q
    rw [List.all_cons, List.all_nil, Bool.and_true] at q
    exact ⟨c, rfl, q⟩
  · exact fun d m _ Q q => q
  · show 0 + _ ≤ _
    unfold signsOf
    rw [List.length_map, Nat.zero_add]
    exact hs
  rw [List.map_id', List.nil_append]
  have ck : cmpOk (.lst ((signsOf s).filter outD)) := (cn_lst (n := 0) fun d m => by
    obtain ⟨c, _, rfl⟩ := List.mem_map.mp (List.mem_filter.mp m).1
    exact cn_str 0 _).ck
  have e : eqD (.lst ((signsOf s).filter outD)) (.lst []) = s.cps.toList.all signOk := by
    rw [eq_nilL]
    exact out_all _
  refine ⟨Nat.zero_le _, ck, ck_nil, ?_⟩
  show ((!eqD (.lst ((signsOf s).filter outD)) (.lst [])) = true → _) ∧ ((!eqD (.lst ((signsOf s).filter outD)) (.lst [])) = false → _)
  rw [e]
  cases q : s.cps.toList.all signOk with
  | true => exact br_f (br_f (hg (.inl q)))
  | false =>
    cases star with
    | true => exact br_t (br_f (hg (.inr rfl)))
    | false => exact br_t (br_t (hb q rfl))
theorem names_true {ds : List D} (hl : ds.length ≤ 6) : namesAt true 0 ds = nameD (.tup ds) := by
  show _ = (decide (ds.length ≤ 6) && ((ds.take 1).all labelD && (ds.drop 1).all plainD))
  rw [decide_eq_true hl, Bool.true_and]
  cases ds with
  | nil => rfl
  | cons d r =>
    show (labAt true 0 d && namesAt true (0 + 1) r) = ((labelD d && true) && r.all plainD)
    rw [names_rest true r (0 + 1) (by decide), Bool.and_true]
    congr 1
    unfold labAt
    rw [Bool.true_and, decide_eq_true rfl, Bool.true_and]
    cases d with
    | str s => exact (label_is _ ⟨s, rfl⟩).symm
    | _ => rfl
theorem names_false {ds : List D} (hl : ds.length ≤ 6) : namesAt false 0 ds = starlessD (.tup ds) := by
  have e : ∀ (ds : List D) (i : Int), namesAt false i ds = ds.all plainD := fun ds => by
    induction ds with
    | nil => exact fun _ => rfl
    | cons d r ih =>
      intro i
      show (labAt false i d && namesAt false (i + 1) r) = (plainD d && r.all plainD)
      rw [ih]
      unfold labAt
      rw [Bool.false_and, Bool.false_and, Bool.or_false]
  rw [e]
  show _ = (nameD (.tup ds) && !eqD (.tup (ds.take 1)) (.tup [.str ("*" : Str)]))
  rw [← names_true hl]
  cases ds with
  | nil => rfl
  | cons d r =>
    show (plainD d && r.all plainD) = ((labAt true 0 d && namesAt true (0 + 1) r) && !eqD (.tup [d]) (.tup [.str ("*" : Str)]))
    rw [names_rest true r (0 + 1) (by decide)]
    have e1 : eqD (.tup [d]) (.tup [.str ("*" : Str)]) = eqD d (.str ("*" : Str)) := by
      unfold eqD
      rw [py_tup, py_tup, eqv_tup]
      simp only [List.map_cons, List.map_nil, PyData.eqvAll, Bool.and_true]
    rw [e1]
    unfold labAt
    rw [Bool.true_and, decide_eq_true rfl, Bool.true_and]
    cases p : plainD d with
    | true =>
      rw [plain_no_star p]
      simp
    | false =>
      cases eqD d (.str ("*" : Str)) <;> simp
end
end DL.K03
namespace DL.K03
open PySem PySem.Spec PyProof.Rows L2
section
variable {K : PySem.W.Frag} {c_BadRecord c_HouseError c_BadName c_BadLine c_BadLetter c_BadChange c_BadZone c_BadTurn c_BadRow k_KINDS : Addr} {S : Sto} {P : W → Sto → Prop} {EP : Value → Sto → Prop}
theorem pure_is_name : ∀ {ds : List D}, g_is_name ds S P EP → t_is_name K c_BadRecord c_HouseError c_BadName c_BadLine c_BadLetter c_BadChange c_BadZone c_BadTurn c_BadRow k_KINDS (EE EP) (DDs P) (startG 6 ds) S := fun {ds} h => by
  unfold g_is_name at h
  split at h
  · rename_i x b
    obtain ⟨hx, h⟩ := h
    have no : (∀ ds, x ≠ .tup ds) → nameD x = false ∧ starlessD x = false := fun hn => by
      cases x <;> first | exact ⟨rfl, rfl⟩ | exact absurd rfl (hn _)
    cases x with
    | tup ds =>
      have hok : ∀ d ∈ ds, okD d = true := fun d m => ok_at hx m
      refine ⟨true, rfl, br_f ?_⟩
      show (decide ((6 : Int) < (ds.length : Int)) = true → _) ∧ (decide ((6 : Int) < (ds.length : Int)) = false → _)
      refine br (fun z => ?_) fun z => ?_
      · have z := of_decide_eq_true z
        have e1 : nameD (.tup ds) = false := by
          show (decide (ds.length ≤ 6) && _) = false
          rw [decide_eq_false (by omega), Bool.false_and]
        have e2 : starlessD (.tup ds) = false := by
          unfold starlessD
          rw [e1, Bool.false_and]
        rw [e1, e2] at h
        cases b <;> exact h
      · have z := of_decide_eq_false z
        have hl : ds.length ≤ 6 := by omega
        have e : (if b then nameD (.tup ds) else starlessD (.tup ds)) = namesAt b 0 ds := by
          cases b with
          | true => exact (names_true hl).symm
          | false => exact (names_false hl).symm
        rw [e] at h
        refine forL_inv (fun r Γ S' => S' = S ∧ ∃ i es t2 t3 t4 t5, r = enumL i es ∧ Γ = [some (.d (.tup ds)), some (.d (.bl b)), t2, t3, t4, t5] ∧ namesAt b i es = namesAt b 0 ds ∧ 0 ≤ i ∧ ∀ d ∈ es, okD d = true) ?_ ?_ _ _ _ ⟨rfl, 0, ds, none, none, none, none, rfl, rfl, rfl, Int.le_refl _, hok⟩
        · rintro Γ S' ⟨rfl, i, es, t2, t3, t4, t5, r, rfl, en, _, _⟩
          cases es with
          | nil =>
            rw [← en] at h
            exact h
          | cons d es => cases r
        · rintro y r Γ S' nx hnx ⟨rfl, i, es, t2, t3, t4, t5, er, rfl, en, i0, ho⟩
          cases es with
          | nil => cases er
          | cons d es =>
            have er : y :: r = .tup [.int i, d] :: enumL (i + 1) es := er
            cases er
            have en : (labAt b i d && namesAt b (i + 1) es) = namesAt b 0 ds := en
            have od := ho d (.head _)
            have bad : labAt b i d = false → P (.d (.bl false)) S' := fun q => by
              rw [q, Bool.false_and] at en
              rw [← en] at h
              exact h
            have go : labAt b i d = true → ∀ t2 t3 t4 t5, nx [some (.d (.tup ds)), some (.d (.bl b)), t2, t3, t4, t5] S' := fun q t2 t3 t4 t5 => hnx _ _ ⟨rfl, i + 1, es, t2, t3, t4, t5, rfl, rfl, by rw [q, Bool.true_and] at en; exact en, by omega, fun d m => ho d (.tail _ m)⟩
            refine ⟨rfl, ?_⟩
            cases d with
            | str s =>
              have hs : s.length ≤ 100000 := Nat.le_trans (of_decide_eq_true od) (by decide)
              have star1 : s = ("*" : Str) → s.length = 1 := fun q => by subst q; decide
              have es : eqD (.str s) (.str ("*" : Str)) = decide (s = ("*" : Str)) := str_eq
              have lab : labAt b i (.str s) = (plainS s || (b && decide (i = 0) && decide (s = ("*" : Str)))) := by
                unfold labAt
                rw [es]
                rfl
              have out : ¬ (1 ≤ s.length ∧ s.length ≤ 8) → labAt b i (.str s) = false := fun q => by
                rw [lab]
                have p : plainS s = false := by
                  unfold plainS
                  by_cases q1 : 1 ≤ s.length
                  · rw [decide_eq_false (by omega : ¬ ((s.length : Int) ≤ 8)), Bool.and_false, Bool.false_and]
                  · rw [decide_eq_false (by omega : ¬ (1 ≤ (s.length : Int))), Bool.false_and, Bool.false_and]
                have sn : decide (s = ("*" : Str)) = false := decide_eq_false (fun w => q (by rw [star1 w]; decide))
                rw [p, sn, Bool.and_false]
                rfl
              refine ⟨true, rfl, br_f ⟨hs, br (fun h1 => br (fun h2 => ?_) fun h2 => ?_) fun h1 => ?_⟩⟩
              · have h2 : ¬ (s.length : Int) ≤ 8 := of_decide_eq_false (nb h2)
                exact bad (out (by omega))
              · have h2 : (s.length : Int) ≤ 8 := of_decide_eq_true (nbf h2)
                have h1 : 1 ≤ (s.length : Int) := of_decide_eq_true h1
                have pl : plainS s = s.cps.toList.all signOk := by
                  unfold plainS
                  rw [decide_eq_true h1, decide_eq_true h2, Bool.true_and, Bool.true_and]
                have fin : ∀ star : Bool, star = (b && decide (i = 0) && decide (s = ("*" : Str))) →
                    (dIfS (dTAnd (dT (dOp fNe (dFz (dComp (dWs (dVar 3)) (dgName 5) (dT (dOp (fIn true) (dVar 5) (dCallS g_signs ew0 dNil))) (dVar 5) [5])) (dFz (dLst dNil)))) (dTNot (dT (dVar 4)))) (dRet (dC (.bl false))) (dNext)) { nx := nx, rt := (DDs P).rt, bk := dRet (dC (.bl true)) (DDs P), ct := nx }
                      [some (.d (.tup ds)), some (.d (.bl b)), some (.d (.int i)), some (.d (.str s)), some (.d (.bl star)), t5] S' := fun star q => by
                  refine name_tail s hs star (fun a1 a2 => bad ?_) fun a => go ?_ _ _ _ _
                  · rw [lab, pl, a1, ← q, a2]
                    rfl
                  · rw [lab, pl, ← q]
                    rcases a with a | a
                    · rw [a, Bool.true_or]
                    · rw [a, Bool.or_true]
                cases b with
                | false => exact br_f (fin false rfl)
                | true =>
                  refine br_t ⟨ck_int _, ck_int _, br_leq (fun w => ⟨ck_str _, ck_str _, ?_⟩) fun w => ?_⟩
                  · refine fin (eqD (.str s) (.str ("*" : Str))) ?_
                    rw [es, decide_eq_true w]
                    rfl
                  · refine fin false ?_
                    rw [decide_eq_false w]
                    rfl
              · have h1 : ¬ 1 ≤ (s.length : Int) := of_decide_eq_false h1
                exact br_t (bad (out (by omega)))
            | ref _ => cases od
            | exc _ => cases od
            | val _ => cases od
            | _ => exact ⟨false, rfl, br_t (br_t (bad (by
                show (false || (b && decide (i = 0) && false)) = false
                rw [Bool.and_false]
                rfl)))⟩
    | ref _ => cases hx
    | exc _ => cases hx
    | val _ => cases hx
    | _ =>
      obtain ⟨e1, e2⟩ := no (fun ds q => nomatch q)
      rw [e1, e2] at h
      refine ⟨false, rfl, br_t (br_t ?_)⟩
      cases b <;> exact h
  · exact h.elim
end
end DL.K03
namespace DL.K03
open PySem PySem.Spec PyProof.Rows L2
section
variable {K : PySem.W.Frag} {c_BadRecord c_HouseError c_BadName c_BadLine c_BadLetter c_BadChange c_BadZone c_BadTurn c_BadRow k_KINDS : Addr} {S : Sto} {P : W → Sto → Prop} {EP : Value → Sto → Prop}
theorem cell_new : ∀ (S : Sto) (o : O) (t : Sto), cellAt (S ++ o :: t) S.length = some o
  | [], _, _ => rfl
  | _ :: S, o, t => cell_new S o t
theorem powt12 : (10 : Int) ^ (12 : Int).toNat = 1000000000000 := by decide
/-! ### rows of texts in order -/
def slt (a b : D) : Bool := PySem.W.dataLt (py a) (py b)
theorem slt_str (a b : Str) : slt (.str a) (.str b) = strLt a b := by
  unfold slt
  rw [py_str, py_str, PySem.W.dataLt_str]
  rfl
theorem slt_swo : SrtO.Swo slt where
  asym := fun x y h => by
    cases e : slt y x with
    | false => rfl
    | true =>
      have t := (PyProof.Rows.listOrd PyProof.Rows.itemOrd).trans _ _ _ h e
      rw [(PyProof.Rows.listOrd PyProof.Rows.itemOrd).irrefl] at t
      cases t
  tr := fun x y z h1 h2 => by
    cases e : slt z x with
    | false => rfl
    | true =>
      rcases (PyProof.Rows.listOrd PyProof.Rows.itemOrd).negTrans _ (PySem.W.keyToks (py y)) _ e with t | t
      · exact t.symm.trans h2
      · exact t.symm.trans h1
theorem slt_anti {x y : D} (hx : ∃ s, x = .str s) (hy : ∃ s, y = .str s) (h1 : slt x y = false) (h2 : slt y x = false) : x = y := by
  obtain ⟨a, rfl⟩ := hx
  obtain ⟨b, rfl⟩ := hy
  rw [slt_str] at h1 h2
  rw [str_total h1 h2]
theorem srtS_uniq : ∀ {l m : List D}, l.Perm m → SrtO.Srtd slt l → SrtO.Srtd slt m → (∀ x ∈ l, (∃ s, x = .str s)) → l = m
  | [], m, p, _, _, _ => (List.nil_perm.mp p).symm
  | x :: l, [], p, _, _, _ => absurd (List.perm_nil.mp p) (fun z => nomatch z)
  | x :: l, y :: m, p, h1, h2, hn => by
    have hx : x ∈ y :: m := p.mem_iff.mp List.mem_cons_self
    have hy : y ∈ x :: l := p.mem_iff.mpr List.mem_cons_self
    have nx := hn x List.mem_cons_self
    have ny := hn y hy
    have e1 : slt y x = false := by
      rcases List.mem_cons.mp hy with z | z
      · rw [z]
        exact slt_swo.refl x
      · exact SrtO.srtd_head h1 y z
    have e2 : slt x y = false := by
      rcases List.mem_cons.mp hx with z | z
      · rw [z]
        exact slt_swo.refl y
      · exact SrtO.srtd_head h2 x z
    have e := slt_anti nx ny e2 e1
    subst e
    rw [srtS_uniq (p.cons_inv) (List.pairwise_cons.mp h1).2 (List.pairwise_cons.mp h2).2 fun z m => hn z (List.mem_cons_of_mem _ m)]
theorem srt_rising : ∀ (p : Str) (r : List Str), risingS p r = true → SrtO.Srtd slt ((p :: r).map D.str)
  | p, [], _ => List.pairwise_singleton _ _
  | p, x :: r, h => by
    rw [risingS, Bool.and_eq_true] at h
    have ih := srt_rising x r h.2
    have hl : slt (.str x) (.str p) = false := by
      rw [slt_str]
      unfold strLt
      rw [← ltCps_eq]
      simpa using h.1
    refine List.pairwise_cons.mpr ⟨fun y m => ?_, ih⟩
    have m : y ∈ D.str x :: r.map D.str := m
    rcases List.mem_cons.mp m with rfl | m
    · exact hl
    · exact slt_swo.tr _ _ _ hl (SrtO.srtd_head ih y m)
theorem srt_sorted {ys : List Str} (h : sortedS ys = true) : SrtO.Srtd slt (ys.map D.str) := by
  cases ys with
  | nil => exact .nil
  | cons p r => exact srt_rising p r h
theorem rise_srt : ∀ (p : Str) (r : List Str), rising ((p :: r).map D.str) = true → risingS p r = true ∧ (p :: r).Nodup
  | p, [], _ => ⟨rfl, by simp⟩
  | p, x :: r, h => by
    have h : (strLt p x && rising ((x :: r).map D.str)) = true := by
      have h : rising (.str p :: .str x :: r.map D.str) = true := h
      rw [rising] at h
      exact h
    rw [Bool.and_eq_true] at h
    obtain ⟨h1, h2⟩ := rise_srt x r h.2
    have hs := srt_rising x r h1
    have a : slt (.str p) (.str x) = true := by rw [slt_str]; exact h.1
    have b : slt (.str x) (.str p) = false := slt_swo.asym _ _ a
    refine ⟨?_, List.nodup_cons.mpr ⟨fun m => ?_, h2⟩⟩
    · rw [risingS, h1, Bool.and_true]
      rw [slt_str] at b
      unfold strLt at b
      rw [← ltCps_eq] at b
      rw [b]
      rfl
    · rcases List.mem_cons.mp m with e | m
      · rw [e, slt_swo.refl] at a
        cases a
      · have c := SrtO.srtd_head hs (.str p) (List.mem_map.mpr ⟨p, m, rfl⟩)
        rw [a] at c
        cases c
/-- rising, or what set and sorted say -/
theorem rise_set {ss ys : List Str} (nd : ys.Nodup) (hm : ∀ k, k ∈ ys ↔ k ∈ ss) (so : sortedS ys = true) : eqD (.lst (ss.map D.str)) (.lst (ys.map D.str)) = rising (ss.map D.str) := by
  have c : eqD (.lst (ss.map D.str)) (.lst (ys.map D.str)) = true ↔ ss = ys := by
    have e : eqD (.lst (ss.map D.str)) (.lst (ys.map D.str)) = PyData.eqvAll (ss.map PyData.str) (ys.map PyData.str) := by
      have ex : ∀ zs : List Str, (zs.map D.str).map py = zs.map PyData.str := fun zs => by
        rw [List.map_map]
        exact List.map_congr_left fun s _ => py_str s
      unfold eqD
      rw [py, py, pyAll_map, pyAll_map, ex, ex, PyData.eqv]
    rw [e]
    refine ⟨strs_eq, fun q => ?_⟩
    subst q
    have := (cmp_strs ss ss).e.mpr rfl
    rw [eqv_tup] at this
    exact this
  cases r : rising (ss.map D.str) with
  | true =>
    refine c.mpr ?_
    cases ss with
    | nil =>
      cases ys with
      | nil => rfl
      | cons y ys => exact absurd ((hm y).mp (.head _)) (fun q => nomatch q)
    | cons p q =>
      obtain ⟨r1, r2⟩ := rise_srt p q r
      have pm : (p :: q).Perm ys := (List.perm_ext_iff_of_nodup r2 nd).mpr fun k => (hm k).symm
      have := srtS_uniq (pm.map D.str) (srt_rising p q r1) (srt_sorted so) fun x m => by
        obtain ⟨s, _, rfl⟩ := List.mem_map.mp m
        exact ⟨s, rfl⟩
      exact (List.map_inj_right fun _ _ q => by injection q).mp this
  | false =>
    cases q : eqD (.lst (ss.map D.str)) (.lst (ys.map D.str)) with
    | false => rfl
    | true =>
      have e := c.mp q
      subst e
      rw [rise_sorted so nd] at r
      cases r
end
end DL.K03
namespace DL.K03
open PySem PySem.Spec PyProof.Rows L2
section
variable {K : PySem.W.Frag} {c_BadRecord c_HouseError c_BadName c_BadLine c_BadLetter c_BadChange c_BadZone c_BadTurn c_BadRow k_KINDS : Addr} {S : Sto} {P : W → Sto → Prop} {EP : Value → Sto → Prop}
theorem ink_mem : ∀ {ds : List D} {d : D}, inkDs ds = true → d ∈ ds → inkD d = true
  | _ :: _, _, h, .head _ => (Bool.and_eq_true _ _ ▸ (show (_ && _) = true from h)).1
  | _ :: _, _, h, .tail _ m => ink_mem (Bool.and_eq_true _ _ ▸ (show (_ && _) = true from h)).2 m
theorem pure_is_data : ∀ {ds : List D}, g_is_data ds S P EP → t_is_data K c_BadRecord c_HouseError c_BadName c_BadLine c_BadLetter c_BadChange c_BadZone c_BadTurn c_BadRow k_KINDS (EE EP) (DDs P) (startG 4 ds) S := fun {ds} h => by
  unfold g_is_data at h
  split at h
  · rename_i k x
    obtain ⟨⟨hk, gx, ink⟩, h⟩ := h
    have h0 : P (.d (.bl (dataD k x))) S := by
      have q := h []
      rw [List.append_nil] at q
      exact q
    refine ⟨ck_str _, ck_str _, br_eq (fun z => ?_) fun z => ?_⟩
    · subst z
      have h0 : P (.d (.bl (amongD x 0 18446744073709551615))) S := h0
      rw [← pow64] at h0
      exact ⟨⟨by decide, by decide, by decide⟩, gx.1, h0⟩
    refine ⟨ck_str _, ck_str _, br_eq (fun z2 => ?_) fun z2 => ?_⟩
    · subst z2
      have h0 : P (.d (.bl (wordsD x))) S := h0
      have hx := gx.1
      cases x with
      | str s =>
        have hs : s.length ≤ 100000 := Nat.le_trans (of_decide_eq_true hx) (by decide)
        have h0 : P (.d (.bl (decide ((s.length : Int) ≤ 30) && s.cps.toList.all printOk))) S := h0
        rw [show s.cps.toList.all printOk = true from ink, Bool.and_true] at h0
        exact ⟨true, rfl, br_t ⟨hs, h0⟩⟩
      | ref _ => cases hx
      | exc _ => cases hx
      | val _ => cases hx
      | _ => exact ⟨false, rfl, br_f h0⟩
    refine ⟨ck_str _, ck_str _, br_eq (fun z3 => ?_) fun z3 => ⟨ck_str _, ck_str _, br_eq (fun z4 => ?_) fun z4 => ?_⟩⟩
    · subst z3
      exact br_t ⟨gx.1, h0⟩
    · subst z4
      exact ⟨gx.1, h0⟩
    refine ⟨ck_str _, ck_str _, br_eq (fun z5 => ?_) fun z5 => ⟨ck_str _, ck_str _, br_eq (fun z6 => ?_) fun z6 => ?_⟩⟩
    · subst z5
      have h0 : P (.d (.bl (amongD x 1 1000000000000))) S := h0
      rw [← powt12] at h0
      exact br_t ⟨⟨by decide, by decide, by decide⟩, gx.1, h0⟩
    · subst z6
      have h0 : P (.d (.bl (amongD x 1 1000000000000))) S := h0
      rw [← powt12] at h0
      exact ⟨⟨by decide, by decide, by decide⟩, gx.1, h0⟩
    have three : k = ("top" : Str) ∨ k = ("seal" : Str) ∨ k = ("gap" : Str) := by
      have hk9 : k ∈ kinds9 := of_decide_eq_true hk
      simp only [kinds9, List.mem_cons, List.not_mem_nil, or_false] at hk9
      rcases hk9 with q | q | q | q | q | q | q | q | q
      · exact absurd q z
      · exact absurd q z2
      · exact absurd q z3
      · exact absurd q z4
      · exact .inl q
      · exact absurd q z5
      · exact absurd q z6
      · exact .inr (.inl q)
      · exact .inr (.inr q)
    have hx := gx.1
    cases x with
    | tup ds =>
      rcases three with rfl | rfl | rfl
      · refine ⟨true, rfl, br_f ⟨_, 0, _, cell_new S _ [], rfl, rfl, ck_int _, ck_int _, br_len (fun y => ?_) fun y => ?_⟩⟩
        · have e : topD (.tup ds) = false := by
            unfold topD
            split
            · rename_i a b q
              cases q
              exact absurd rfl y
            · rfl
          have h := h [.dct [("top" : Str), ("seal" : Str), ("gap" : Str)] [.int 2, .int 3, .int 2]]
          have h : P (.d (.bl (topD (.tup ds)))) _ := h
          rw [e] at h
          exact h
        · have y : ds.length = 2 := by omega
          match ds, y, gx, h with
          | [a, b], _, gx, h =>
            have ga := gd_at gx (.head _)
            have gb := gd_at gx (.tail _ (.head _))
            have h := h [.dct [("top" : Str), ("seal" : Str), ("gap" : Str)] [.int 2, .int 3, .int 2]]
            have h : P (.d (.bl (amongD a 0 4294967295 && amongD b 0 1000000))) _ := h
            rw [← pow32, ← pow6] at h
            refine ⟨ck_str _, ck_str _, br_eq (fun _ => ?_) fun q => absurd rfl q⟩
            refine ⟨a, rfl, ⟨by decide, by decide, by decide⟩, ga.1, br (fun u => ?_) fun u => ?_⟩
            · rw [show amongD a 0 _ = true from u, Bool.true_and] at h
              exact ⟨b, rfl, ⟨by decide, by decide, by decide⟩, gb.1, h⟩
            · rw [show amongD a 0 _ = false from u, Bool.false_and] at h
              exact h
      · refine ⟨true, rfl, br_f ⟨_, 1, _, cell_new S _ [], rfl, rfl, ck_int _, ck_int _, br_len (fun y => ?_) fun y => ?_⟩⟩
        · have e : sealD (.tup ds) = false := by
            unfold sealD
            split
            · rename_i a b c q
              cases q
              exact absurd rfl y
            · rfl
          have h := h [.dct [("top" : Str), ("seal" : Str), ("gap" : Str)] [.int 2, .int 3, .int 2]]
          have h : P (.d (.bl (sealD (.tup ds)))) _ := h
          rw [e] at h
          exact h
        · have y : ds.length = 3 := by omega
          match ds, y, gx, h with
          | [a, b, c], _, gx, h =>
            have ga := gd_at gx (.head _)
            have gb := gd_at gx (.tail _ (.head _))
            have gc := gd_at gx (.tail _ (.tail _ (.head _)))
            have h := h [.dct [("top" : Str), ("seal" : Str), ("gap" : Str)] [.int 2, .int 3, .int 2]]
            have h : P (.d (.bl (kindD a && !eqD a (.str ("seal" : Str)) && amongD b 1 1000000000000 && amongD c 0 1000000006))) _ := h
            rw [← powt12] at h
            refine ⟨ck_str _, ck_str _, br_eq (fun q => absurd q (by decide)) fun _ => ⟨ck_str _, ck_str _, br_eq (fun _ => ?_) fun q => absurd rfl q⟩⟩
            refine ⟨a, rfl, ga.1, br (fun u => ?_) fun u => ?_⟩
            · have u : kindD a = true := u
              rw [u, Bool.true_and] at h
              obtain ⟨s, rfl, _⟩ := kind_str u
              refine ⟨_, rfl, ck_str _, ck_str _, br (fun v => ?_) fun v => ?_⟩
              · rw [show (!eqD (.str s) (.str ("seal" : Str))) = true from v, Bool.true_and] at h
                refine ⟨b, rfl, ⟨by decide, by decide, by decide⟩, gb.1, br (fun w => ?_) fun w => ?_⟩
                · rw [show amongD b 1 _ = true from w, Bool.true_and] at h
                  exact ⟨c, rfl, gc.1, h⟩
                · rw [show amongD b 1 _ = false from w, Bool.false_and] at h
                  exact h
              · rw [show (!eqD (.str s) (.str ("seal" : Str))) = false from v, Bool.false_and, Bool.false_and] at h
                exact br_f h
            · rw [show kindD a = false from u, Bool.false_and, Bool.false_and, Bool.false_and] at h
              exact br_f h
      · refine ⟨true, rfl, br_f ⟨_, 2, _, cell_new S _ [], rfl, rfl, ck_int _, ck_int _, br_len (fun y => ?_) fun y => ?_⟩⟩
        · have e : gapD (.tup ds) = false := by
            unfold gapD
            split
            · rename_i a b q
              cases q
              exact absurd rfl y
            · rfl
          have h := h [.dct [("top" : Str), ("seal" : Str), ("gap" : Str)] [.int 2, .int 3, .int 2]]
          have h : P (.d (.bl (gapD (.tup ds)))) _ := h
          rw [e] at h
          exact h
        · have y : ds.length = 2 := by omega
          match ds, y, gx, h with
          | [a, b], _, gx, h =>
            have ga := gd_at gx (.head _)
            have gb := gd_at gx (.tail _ (.head _))
            have h := h [.dct [("top" : Str), ("seal" : Str), ("gap" : Str)] [.int 2, .int 3, .int 2]]
            have h : P (.d (.bl (gapD (.tup [a, b])))) _ := h
            refine ⟨ck_str _, ck_str _, br_eq (fun q => absurd q (by decide)) fun _ => ⟨ck_str _, ck_str _, br_eq (fun q => absurd q (by decide)) fun _ => ?_⟩⟩
            refine ⟨a, rfl, ga.1, br (fun u => ?_) fun u => ?_⟩
            · have e : gapD (.tup [a, b]) = false := by
                cases b <;> first | rfl | (show (nameD a && _ && _) = false; rw [show nameD a = false from nb u, Bool.false_and, Bool.false_and])
              rw [e] at h
              exact br_t h
            · have u : nameD a = true := nbf u
              have ob := gb.1
              cases b with
              | tup ks =>
                have h : P (.d (.bl (nameD a && ks.all kindD && rising ks))) _ := h
                rw [u, Bool.true_and] at h
                have hsz : ks.length ≤ 60 := sm_len gb.2
                refine ⟨_, rfl, true, rfl, br_f ⟨_, rfl, ?_⟩⟩
                refine compL_map (fun d => .bl (kindD d)) ks [] (fun d m Q q => ⟨ok_at ob m, q⟩) (show 0 + _ ≤ 100000 by omega) ?_
                refine ⟨_, bls (p := kindD) ks, ?_⟩
                rw [allmap]
                refine br (fun v => ?_) fun v => ?_
                · have v : ks.all kindD = true := v
                  rw [v, Bool.true_and] at h
                  obtain ⟨ss, rfl, _⟩ := kinds_strs v
                  rw [List.length_map] at hsz
                  refine ⟨_, rfl, _, rfl, ss, strs_mp ss, by omega, fun ys nd hm so => ?_⟩
                  have hst : ∀ us : List Str, cmpOk (.lst (us.map D.str)) := fun us => (cn_lst (n := 0) fun d m => by
                    obtain ⟨s, _, rfl⟩ := List.mem_map.mp m
                    exact cn_str 0 s).ck
                  refine ⟨hst ss, hst ys, ?_⟩
                  rw [← rise_set nd hm so] at h
                  exact h
                · rw [show ks.all kindD = false from v, Bool.false_and] at h
                  exact h
              | ref _ => cases ob
              | exc _ => cases ob
              | val _ => cases ob
              | _ => exact ⟨_, rfl, false, rfl, br_t h⟩
    | ref _ => cases hx
    | exc _ => cases hx
    | val _ => cases hx
    | _ => rcases three with rfl | rfl | rfl <;> exact ⟨false, rfl, br_t (br_t h0)⟩
  · exact h.elim
theorem powt6 : (10 : Int) ^ (6 : Int).toNat = 1000000 := by decide
theorem pure_is_record : ∀ {ds : List D}, g_is_record ds S P EP → t_is_record K c_BadRecord c_HouseError c_BadName c_BadLine c_BadLetter c_BadChange c_BadZone c_BadTurn c_BadRow k_KINDS (EE EP) (DDs P) (startG 1 ds) S := fun {ds} h => by
  unfold g_is_record at h
  split at h
  · rename_i x
    obtain ⟨⟨gx, ink⟩, h⟩ := h
    have h0 : P (.d (.bl (recD x))) S := by
      have q := h []
      rw [List.append_nil] at q
      exact q
    have hx := gx.1
    cases x with
    | tup ds =>
      refine ⟨true, rfl, br_f ⟨ck_int _, ck_int _, br_len (fun z => ?_) fun z => ?_⟩⟩
      · have e : recD (.tup ds) = false := by
          unfold recD
          split
          · rename_i a b c d q
            cases q
            exact absurd rfl z
          · rfl
        rw [e] at h0
        exact br_t h0
      · have z : ds.length = 4 := by omega
        match ds, z, gx, ink, h, h0 with
        | [n, k, l, d], _, gx, ink, h, h0 =>
          have gn := gd_at gx (.head _)
          have gk := gd_at gx (.tail _ (.head _))
          have gl := gd_at gx (.tail _ (.tail _ (.head _)))
          have gd := gd_at gx (.tail _ (.tail _ (.tail _ (.head _))))
          have id := ink_mem (show inkDs [n, k, l, d] = true from ink) (.tail _ (.tail _ (.tail _ (.head _))))
          refine ⟨n, rfl, gn.1, br (fun y => ?_) fun y => ?_⟩
          · have e : recD (.tup [n, k, l, d]) = false := by
              cases k <;> first | rfl | (show (nameD n && _ && _ && _) = false; rw [show nameD n = false from nb y, Bool.false_and, Bool.false_and, Bool.false_and])
            rw [e] at h0
            exact h0
          · have y : nameD n = true := nbf y
            refine ⟨k, rfl, gk.1, br (fun u => ?_) fun u => ?_⟩
            · have u : kindD k = true := u
              obtain ⟨s, rfl, _⟩ := kind_str u
              have h : ∀ t, P (.d (.bl (nameD n && kindD (.str s) && liveD l && dataD s d))) (S ++ t) := h
              have h0 : P (.d (.bl (nameD n && kindD (.str s) && liveD l && dataD s d))) S := h0
              rw [y, u, Bool.true_and, Bool.true_and] at h h0
              refine ⟨l, rfl, ⟨by decide, by decide, by decide⟩, gl.1, ?_⟩
              rw [powt6]
              refine br (fun v => ?_) fun v => ?_
              · rw [show liveD l = true from v, Bool.true_and] at h
                exact ⟨_, rfl, d, rfl, ⟨u, gd, id⟩, h⟩
              · rw [show liveD l = false from v, Bool.false_and] at h0
                exact h0
            · have e : recD (.tup [n, k, l, d]) = false := by
                cases k <;> first | rfl | (show (nameD n && kindD (.str _) && _ && _) = false; rw [show kindD (.str _) = false from u, Bool.and_false, Bool.false_and, Bool.false_and])
              rw [e] at h0
              exact h0
    | ref _ => cases hx
    | exc _ => cases hx
    | val _ => cases hx
    | _ => exact ⟨false, rfl, br_t (br_t h0)⟩
  · exact h.elim
end
end DL.K03
namespace DL.K03
open PySem PySem.Spec PyProof.Rows L2
section
variable {K : PySem.W.Frag} {c_BadRecord c_HouseError c_BadName c_BadLine c_BadLetter c_BadChange c_BadZone c_BadTurn c_BadRow k_KINDS : Addr} {S : Sto} {P : W → Sto → Prop} {EP : Value → Sto → Prop}
structure KF (K : PySem.W.Frag) (c_BadRecord c_HouseError c_BadName c_BadLine c_BadLetter c_BadChange c_BadZone c_BadTurn c_BadRow k_KINDS : Addr) : Prop where
  k8 : PySem.W.kitOne K (.ref c_BadRecord) (.type "ValueError") = some true
  k9 : PySem.W.kitOne K (.ref c_BadRecord) (.ref c_BadRecord) = some true
  ex : PySem.W.exmOne K (.ref c_BadRecord) (.ref c_HouseError) = some true
  ec : ExcC K c_BadRecord
  q1 : PySem.W.kitOne K (.ref c_BadRecord) (.ref c_BadChange) = some false
  q2 : PySem.W.kitOne K (.ref c_BadRecord) (.ref c_BadLetter) = some false
  q3 : PySem.W.kitOne K (.ref c_BadRecord) (.ref c_BadLine) = some false
  q4 : PySem.W.kitOne K (.ref c_BadRecord) (.ref c_BadName) = some false
  q5 : PySem.W.kitOne K (.ref c_BadRecord) (.ref c_BadRow) = some false
  q6 : PySem.W.kitOne K (.ref c_BadRecord) (.ref c_BadTurn) = some false
  q7 : PySem.W.kitOne K (.ref c_BadRecord) (.ref c_BadZone) = some false
theorem isi_1 {v : Value} {c : V} {b : Bool} (h : PySem.W.kitOne K v (clsU c) = some b) : isiOne K (.exc v) c = some b := by cases c <;> exact h
theorem isi_n {v : Value} {c : V} {cs : List D} (h : PySem.W.kitOne K v (clsU c) = some false) (q : isiSome K (.exc v) cs = some false) : isiSome K (.exc v) (.val c :: cs) = some false := by
  rw [isiSome, isi_1 h]
  exact q
theorem pure_word (F : KF K c_BadRecord c_HouseError c_BadName c_BadLine c_BadLetter c_BadChange c_BadZone c_BadTurn c_BadRow k_KINDS) : ∀ {ds : List D}, g_word ds S P EP → t_word K c_BadRecord c_HouseError c_BadName c_BadLine c_BadLetter c_BadChange c_BadZone c_BadTurn c_BadRow k_KINDS (EE EP) (DDs P) (startG 4 ds) S := fun {ds} h => by
  unfold g_word at h
  split at h
  · rename_i x
    obtain ⟨⟨hx, hn⟩, h⟩ := h
    refine ⟨hx, fun rs e ha => ?_, fun _ => ⟨true, F.ex, fun _ => ⟨⟨_, rfl, F.ec⟩, ?_⟩, fun z => nomatch z⟩⟩
    · subst e
      rw [show recsD (.lst rs) = rs.all recD from rfl, ha] at hn
      cases hn
    · refine ⟨(by decide : (4 : Nat) ≤ 100000), ⟨(fun z => nomatch z), rfl⟩, false, isi_n F.q1 (isi_n F.q2 (isi_n F.q3 (isi_n F.q4 rfl))), br_f ?_⟩
      refine ⟨(by decide : (3 : Nat) ≤ 100000), ⟨(fun z => nomatch z), rfl⟩, false, isi_n F.q5 (isi_n F.q6 (isi_n F.q7 rfl)), ?_⟩
      exact ⟨true, isi_1 F.k9, br_t ⟨true, isi_1 F.k8, br_t h⟩⟩
  · exact h.elim
theorem rec_tup {x : D} (h : recD x = true) : ∃ n k l d, x = .tup [n, .str k, l, d] ∧ nameD n = true ∧ kindD (.str k) = true ∧ liveD l = true ∧ dataD k d = true := rec_ex h
theorem pure_some : ∀ {ds : List D}, g_some ds S P EP → t_some K c_BadRecord c_HouseError c_BadName c_BadLine c_BadLetter c_BadChange c_BadZone c_BadTurn c_BadRow k_KINDS (EE EP) (DDs P) (startG 8 ds) S := fun {ds} h => by
  unfold g_some at h
  split at h
  · rename_i l
    obtain ⟨n, hD, hn, hL, h⟩ := h
    refine ⟨Nat.zero_le _, ?_⟩
    refine next_g (EP := EP) hD (by omega) fun r S1 hD1 r0 r1 => ?_
    have m10 := mod_rng r (m := 10) (by decide)
    refine ⟨(by decide : (0 : Int) < 10), Int.le_trans (by decide) m10.1, Int.lt_trans m10.2 (by decide), ?_⟩
    generalize r % 10 = z at m10
    refine forL_inv (fun r Γ S => ∃ fs t3 t4 t5 t6 t7, Γ = [some (.d (.ref 0)), some (.d l), some (.own fs), t3, t4, t5, t6, t7] ∧ fs.all recD = true ∧ fs.length + r.length ≤ 9 ∧ r.length ≤ 9 ∧ Dr (n + 1 + 100 * (9 - r.length)) S) ?_ ?_ (intsFrom 0 z.toNat) _ _ ⟨[], none, none, none, none, none, rfl, rfl, ?_, ?_, ?_⟩
    · rintro Γ S2 ⟨fs, t3, t4, t5, t6, t7, rfl, hf, hl, _, hD2⟩
      have hl : fs.length + 0 ≤ 9 := hl
      exact h fs S2 hf (by omega) (hD2.mono (by show n + 1 + 100 * (9 - ((0 : Nat) : Int)) ≤ _; omega))
    · rintro x r Γ S2 nx hnx ⟨fs, t3, t4, t5, t6, t7, rfl, hf, hl, hr, hD2⟩
      rw [List.length_cons] at hl hr hD2
      have hf' : ∀ d ∈ fs, recD d = true := fun d m => List.all_eq_true.mp hf d m
      refine ⟨_, hD2, by omega, hL, fun y S3 hy hD3 => ?_⟩
      refine next_g (EP := EP) hD3 (by omega) fun w S4 hD4 w0 w1 => ?_
      have add : ∀ (d : D) (S5 : Sto) {t3 t4 t5 t6 t7 : Option W}, recD d = true → Dr (n + 1 + 100 * (9 - ((r.length + 1 : Nat) : Int)) + 50 + 1 + 30) S5 → sz (fs.length + 1) ∧ nx [some (.d (.ref 0)), some (.d l), some (.own (fs ++ [d])), t3, t4, t5, t6, t7] S5 := fun d S5 _ _ _ _ _ hd hD5 =>
        ⟨(show _ ≤ 100000 by omega), hnx _ _ ⟨_, _, _, _, _, _, rfl, by rw [List.all_append, hf, List.all_cons, hd]; rfl, by rw [List.length_append]; show _ + 1 + _ ≤ _; omega, by omega, hD5.mono (by omega)⟩⟩
      have ckf : cmpOk (.lst fs) := (cn_lst (n := 3) fun d m => by
        obtain ⟨n, k, l, e, rfl, hn, hk, hl, hd⟩ := rec_ex (hf' d m)
        refine cn_tup (n := 2) fun z m => ?_
        simp only [List.mem_cons, List.not_mem_nil, or_false] at m
        rcases m with rfl | rfl | rfl | rfl
        · exact ckup (name_ck hn) (by decide)
        · exact cn_str 2 _
        · obtain ⟨i, rfl, _⟩ := among_ex hl
          exact cn_int 2 _
        · exact (same_of hk z z hd hd).2.2.2.1).ck
      refine ⟨Nat.zero_le _, ckf, ck_nil, ?_⟩
      refine br (fun z1 => ⟨(by decide : (0 : Int) < 2), ck_int _, ck_int _, br (fun z2 => ?_) fun z2 => add y S4 hy (hD4.mono (by omega))⟩) fun z1 => br_f (add y S4 hy (hD4.mono (by omega)))
      have z1 : fs.isEmpty = false := by
        have z1 := nb (show (!eqD (.lst fs) (.lst [])) = true from z1)
        rw [eq_nilL] at z1
        exact z1
      have hne : 0 < fs.length := by
        cases fs with
        | nil => cases z1
        | cons a b => exact Nat.succ_pos _
      have hw := mod_rng (w / 2) (m := (fs.length : Int)) (by omega)
      obtain ⟨o, eo, mo, _⟩ := at_ex (xs := fs) hw.1 hw.2
      obtain ⟨on, ok, ol, od, rfl, h1, h2, h3, h4⟩ := rec_ex (hf' o mo)
      obtain ⟨yn, yk, yl, yd, rfl, g1, g2, g3, g4⟩ := rec_ex hy
      refine ⟨cdiv, (show (0 : Int) < (fs.length : Int) by omega), _, eo, ?_⟩
      refine ⟨_, rfl, _, rfl, _, rfl, _, rfl, (by decide : (4 : Nat) ≤ 100000), _, rfl, (by decide : (1 : Nat) ≤ 100000), (by decide : 1 + 3 ≤ 100000), (by decide : (3 : Nat) ≤ 100000), ?_⟩
      refine ⟨_, rfl, _, rfl, _, rfl, _, rfl, _, hD4, by omega, hL, h2, fun e S5 he hD5 => ⟨(by decide : (4 : Nat) ≤ 100000), (by decide : 3 + 1 ≤ 100000), ?_⟩⟩
      have m4 := mod_rng (w / 30) (m := 4) (by decide)
      obtain ⟨q, eq, mq, _⟩ := at_ex (xs := [D.tup [on, .str ok, ol, od], .tup [on, .str ok, yl, od], .tup [yn, .str ok, ol, od], .tup [on, .str ok, ol, e]]) m4.1 m4.2
      have hq : recD q = true := by
        have mk : ∀ {a : D} {k : Str} {b c : D}, nameD a = true → kindD (.str k) = true → liveD b = true → dataD k c = true → recD (.tup [a, .str k, b, c]) = true := fun p1 p2 p3 p4 => by
          show (nameD _ && kindD _ && liveD _ && dataD _ _) = true
          rw [p1, p2, p3, p4]
          rfl
        simp only [List.mem_cons, List.not_mem_nil, or_false] at mq
        rcases mq with rfl | rfl | rfl | rfl
        · exact mk h1 h2 h3 h4
        · exact mk h1 h2 g3 h4
        · exact mk g1 h2 h3 h4
        · exact mk h1 h2 h3 he
      exact ⟨cdiv, (by decide : (0 : Int) < 4), q, eq, add q S5 hq (hD5.mono (by omega))⟩
    · rw [ints_len]
      show 0 + _ ≤ _
      omega
    · rw [ints_len]
      omega
    · exact hD1.mono (by rw [ints_len]; omega)
  · exact h.elim
end
end DL.K03
namespace DL.K03
open PySem PySem.Spec PyProof.Rows L2
section
variable {K : PySem.W.Frag} {c_BadRecord c_HouseError c_BadName c_BadLine c_BadLetter c_BadChange c_BadZone c_BadTurn c_BadRow k_KINDS : Addr} {S : Sto} {P : W → Sto → Prop} {EP : Value → Sto → Prop}
theorem cut_le (ds : List D) (lo hi : Option Int) : (cutL ds lo hi).length ≤ ds.length := by
  unfold cutL
  rw [List.length_take, List.length_drop]
  omega
abbrev Go (y : D) : Prop := Gd y ∧ inkD y = true
theorem ink_of : ∀ {ds : List D}, (∀ d ∈ ds, inkD d = true) → inkDs ds = true
  | [], _ => rfl
  | d :: ds, h => by
    show (inkD d && inkDs ds) = true
    rw [h d (.head _), ink_of fun x m => h x (.tail _ m)]
    rfl
theorem go_row {ds : List D} (hl : ds.length ≤ 60) (h : ∀ d ∈ ds, Go d) : Go (.tup ds) ∧ Go (.lst ds) := by
  have a : okDs ds = true := okDs_of fun d m => (h d m).1.1
  have b : (decide (ds.length ≤ 60) && smDs ds) = true := by
    rw [decide_eq_true hl, smDs_of fun d m => (h d m).1.2]
    rfl
  have c : inkDs ds = true := ink_of fun d m => (h d m).2
  exact ⟨⟨⟨a, b⟩, c⟩, ⟨a, b⟩, c⟩
theorem deep_go : ∀ (k : Nat) (x : D), okD x = true → inkD x = true → deep k x → ckN k x ∧ Go x
  | k, .non, h1, h2, _ => ⟨cn_non k, ⟨rfl, rfl⟩, rfl⟩
  | k, .bl _, h1, h2, _ => ⟨cn_bl k _, ⟨rfl, rfl⟩, rfl⟩
  | k, .int _, h1, h2, _ => ⟨cn_int k _, ⟨rfl, rfl⟩, rfl⟩
  | k, .str _, h1, h2, _ => ⟨cn_str k _, ⟨h1, rfl⟩, h2⟩
  | 0, .tup ds, _, _, h => by
    unfold deep at h
    exact h.2.elim
  | k + 1, .tup ds, h1, h2, h => by
    unfold deep at h
    have hm : ∀ d ∈ ds, ckN k d ∧ Go d := fun d m => deep_go k d (ok_at h1 m) (ink_mem (show inkDs ds = true from h2) m) (h.2 d m)
    exact ⟨cn_tup fun d m => (hm d m).1, (go_row (by omega) fun d m => (hm d m).2).1⟩
  | k, .lst _, _, _, h => by unfold deep at h; exact h.elim
  | k, .edict, _, _, h => by unfold deep at h; exact h.elim
  | _, .ref _, h1, _, _ => by cases h1
  | _, .exc _, h1, _, _ => by cases h1
  | _, .val _, h1, _, _ => by cases h1
theorem deep_tup {k : Nat} {ds : List D} (h : deep k (.tup ds)) : ∃ j, k = j + 1 ∧ ds.length ≤ 9 ∧ ∀ d ∈ ds, deep j d := by
  cases k with
  | zero => unfold deep at h; exact h.2.elim
  | succ j => unfold deep at h; exact ⟨j, rfl, h.1, h.2⟩
theorem pure_spoilt : ∀ (k : Nat) {ds : List D}, g_spoilt k ds S P EP → t_spoilt K c_BadRecord c_HouseError c_BadName c_BadLine c_BadLetter c_BadChange c_BadZone c_BadTurn c_BadRow k_KINDS (prevG g_spoilt k) (EE EP) (DDs P) (startG 4 ds) S := fun k {ds} h => by
  unfold g_spoilt at h
  split at h
  · rename_i x
    obtain ⟨n, hD, hn, ⟨ho, hi, hd, hk⟩, h⟩ := h
    refine next_g (EP := EP) hD (by omega) fun r S1 hD1 r0 r1 => ?_
    have odd : ∀ P2 : W → Sto → Prop, (∀ y S', Gd y → inkD y = true → Dr (n + k + 1) S' → P2 (.d y) S') → g_odd [.int (r / 5), x] S1 P2 EP := fun P2 q => ⟨⟨ho, hi, k, hd⟩, fun y a b => q y S1 a b (hD1.mono (by omega))⟩
    have ck := (deep_go k x ho hi hd).1
    cases x with
    | tup ds =>
      obtain ⟨j, rfl, l9, hm⟩ := deep_tup hd
      have hgo : ∀ d ∈ ds, Go d := fun d m => (deep_go j d (ok_at ho m) (ink_mem (show inkDs ds = true from hi) m) (hm d m)).2
      have ckx : cmpOk (.tup ds) := ck.ck (by omega)
      refine ⟨true, rfl, br_f ⟨Nat.zero_le _, ckx, ck_unit, br (fun z => ?_) fun z => ?_⟩⟩
      · exact br_t ⟨cdiv, odd _ h⟩
      have hne : 0 < ds.length := by
        cases ds with
        | nil => exact absurd (show eqD (.tup []) (.tup []) = false from z) (by rw [eqD_refl]; decide)
        | cons a b => exact Nat.succ_pos _
      refine ⟨(by decide : (0 : Int) < 5), ck_int _, ck_int _, br (fun _ => ⟨cdiv, odd _ h⟩) fun _ => ?_⟩
      have hr := mod_rng (r / 5) (m := (ds.length : Int)) (by omega)
      obtain ⟨d, e, md, _⟩ := at_ex (xs := ds) hr.1 hr.2
      refine ⟨cdiv, (show (0 : Int) < (ds.length : Int) by omega), d, e, n + 1, hD1, by omega, ⟨ok_at ho md, ink_mem (show inkDs ds = true from hi) md, hm d md, by omega⟩, fun y S2 gy iy hD2 => ?_⟩
      have c1 := cut_le ds none (some (r / 5 % (ds.length : Int)))
      have c2 := cut_le ds (some (r / 5 % (ds.length : Int) + 1)) none
      have hlen : (cutL ds none (some (r / 5 % (ds.length : Int)))).length ≤ 9 ∧ (cutL ds (some (r / 5 % (ds.length : Int) + 1)) none).length ≤ 9 := by
        exact ⟨by omega, by omega⟩
      refine ⟨(by decide : (1 : Nat) ≤ 100000), (show _ + 1 ≤ 100000 by omega), (show _ ≤ 100000 by rw [List.length_append]; show _ + 1 + _ ≤ _; omega), ?_⟩
      have g := (go_row (ds := cutL ds none (some (r / 5 % (ds.length : Int))) ++ [y] ++ cutL ds (some (r / 5 % (ds.length : Int) + 1)) none) (by rw [List.length_append, List.length_append]; show _ + 1 + _ ≤ _; omega) fun d m => by
        rcases List.mem_append.mp m with m | m
        · rcases List.mem_append.mp m with m | m
          · exact hgo d (cut_sub m)
          · rw [List.mem_singleton.mp m]
            exact ⟨gy, iy⟩
        · exact hgo d (cut_sub m)).1
      exact h _ S2 g.1 g.2 (hD2.mono (by omega))
    | ref _ => cases ho
    | exc _ => cases ho
    | val _ => cases ho
    | lst _ => unfold deep at hd; exact hd.elim
    | edict => unfold deep at hd; exact hd.elim
    | _ => exact ⟨false, rfl, br_t (br_t ⟨cdiv, odd _ h⟩)⟩
  · exact h.elim
end
end DL.K03
namespace DL.K03
open PySem PySem.Spec PyProof.Rows L2
section
variable {K : PySem.W.Frag} {c_BadRecord c_HouseError c_BadName c_BadLine c_BadLetter c_BadChange c_BadZone c_BadTurn c_BadRow k_KINDS : Addr} {S : Sto} {P : W → Sto → Prop} {EP : Value → Sto → Prop}
theorem digits_ok : ∀ n : Fin 1000, ((toString (((n : Nat) : Int)) : Str).cps.toList.all printOk && decide ((toString (((n : Nat) : Int)) : Str).length ≤ 10)) = true := by decide +kernel
theorem go_str {s : Str} (h : s.length ≤ 50000) (h2 : s.cps.toList.all printOk = true) : Go (.str s) := ⟨⟨decide_eq_true h, rfl⟩, h2⟩
theorem go_int (i : Int) : Go (.int i) := ⟨⟨rfl, rfl⟩, rfl⟩
abbrev odds : List D := [D.non, .bl true, .int (-1), .str ("" : Str), .int ((10 : Int) ^ (6 : Int).toNat + 1), .int ((2 : Int) ^ (64 : Int).toNat), .int ((10 : Int) ^ (12 : Int).toNat + 1), .int 0, .str (strMul ("a" : Str) 31)] ++
  [.tup [.str ("a" : Str)], .tup [.str ("*" : Str)], .tup [], .lst [], .edict, .str ("seal" : Str)] ++ [.int ((2 : Int) ^ (32 : Int).toNat), .int 1000000007, .tup [.str ("a" : Str), .str ("*" : Str)], .tup [.str ("addr" : Str), .str ("addr" : Str)], .tup [.str ("text" : Str), .str ("addr" : Str)]]
theorem odds_ok : (odds.all fun y => okD y && smD y && inkD y) = true := by decide +kernel
theorem odds_go : ∀ y ∈ odds, Go y := fun y m => by
  have q := List.all_eq_true.mp odds_ok y m
  rw [Bool.and_eq_true, Bool.and_eq_true] at q
  exact ⟨q.1, q.2⟩
theorem go_app {a b : List D} (ha : ∀ y ∈ a, Go y) (hb : ∀ y ∈ b, Go y) : ∀ y ∈ a ++ b, Go y := fun y m => (List.mem_append.mp m).elim (ha y) (hb y)
theorem pure_odd : ∀ {ds : List D}, g_odd ds S P EP → t_odd K c_BadRecord c_HouseError c_BadName c_BadLine c_BadLetter c_BadChange c_BadZone c_BadTurn c_BadRow k_KINDS (EE EP) (DDs P) (startG 3 ds) S := fun {ds} h => by
  unfold g_odd at h
  split at h
  · rename_i a x
    obtain ⟨⟨ho, hi, k, hd⟩, h⟩ := h
    have gx := (deep_go k x ho hi hd).2
    have fin : ∀ L : List D, (∀ y ∈ L, Go y) → 0 < L.length → (dRet (dOp fIx (dVar 2) (dOp fMod (dVar 0) (dCall fLen (dCons (dVar 2) dNil))))) (DDs P) [some (.d (.int a)), some (.d x), some (.d (.lst L))] S := fun L hL h0 => by
      have hr := mod_rng a (m := (L.length : Int)) (by omega)
      obtain ⟨y, e, my, _⟩ := at_ex (xs := L) hr.1 hr.2
      exact ⟨(show (0 : Int) < (L.length : Int) by omega), y, e, h y (hL y my).1 (hL y my).2⟩
    have five : ∀ L : List D, (∀ y ∈ L, Go y) → 0 < L.length → L.length ≤ 1000 →
        (dSeq (dIfS (dT (dCallS g_among (EE EP) (dCons (dVar 1) (dCons (dC (.int 0)) (dCons (dOp fPow (dC (.int 2)) (dC (.int 64))) dNil)))))
  (dSet 2 (dFz (dOpF fCat (dVar 2) (dFz (dLst (dCons (dOp fAdd (dVar 1) (dC (.int 1))) (dCons (dOp fSub (dVar 1) (dC (.int 1))) (dCons (dNeg (dVar 1)) (dCons (dCall fStrI (dCons (dOp fMod (dVar 0) (dC (.int 1000))) dNil)) dNil)))))))))
  (dNext))
  (dRet (dOp fIx (dVar 2) (dOp fMod (dVar 0) (dCall fLen (dCons (dVar 2) dNil)))))) (DDs P) [some (.d (.int a)), some (.d x), some (.d (.lst L))] S := fun L hL h0 h1 => by
      refine ⟨⟨by decide, by decide, by decide⟩, ho, br (fun z => ?_) fun z => fin L hL h0⟩
      obtain ⟨i, rfl, _⟩ := among_ex z
      have m := mod_rng a (m := 1000) (by decide)
      have dg := digits_ok ⟨(a % 1000).toNat, by omega⟩
      have e : (((a % 1000).toNat : Nat) : Int) = a % 1000 := Int.toNat_of_nonneg m.1
      simp only [e] at dg
      rw [Bool.and_eq_true] at dg
      have hl2 : (a % 1000).natAbs.log2 < 1920 := Nat.lt_of_le_of_lt (Nat.log2_le_self _) (by omega)
      refine ⟨(by decide : (0 : Int) < 1000), hl2, (by decide : (4 : Nat) ≤ 100000), (show L.length + 4 ≤ 100000 by omega), fin _ (go_app hL fun y my => ?_) (by rw [List.length_append]; omega)⟩
      simp only [List.mem_cons, List.not_mem_nil, or_false] at my
      rcases my with rfl | rfl | rfl | rfl
      · exact go_int _
      · exact go_int _
      · exact go_int _
      · exact go_str (Nat.le_trans (of_decide_eq_true dg.2) (by decide)) dg.1
    refine ⟨⟨by decide, by decide, by decide⟩, ⟨by decide, by decide, by decide⟩, ⟨by decide, by decide, by decide⟩, ⟨by decide, by decide, by decide⟩, (by decide : (9 : Nat) ≤ 100000), ?_⟩
    refine ⟨(by decide : (1 : Nat) ≤ 100000), (by decide : (1 : Nat) ≤ 100000), (by decide : (0 : Nat) ≤ 100000), (by decide : (0 : Nat) ≤ 100000), (by decide : (6 : Nat) ≤ 100000), (by decide : 9 + 6 ≤ 100000), ?_⟩
    refine ⟨⟨by decide, by decide, by decide⟩, (by decide : (2 : Nat) ≤ 100000), (by decide : (2 : Nat) ≤ 100000), (by decide : (2 : Nat) ≤ 100000), (by decide : (5 : Nat) ≤ 100000), (by decide : 15 + 5 ≤ 100000), ?_⟩
    cases x with
    | tup ds =>
      obtain ⟨j, _, l9, hm⟩ := deep_tup hd
      have hgo : ∀ d ∈ ds, Go d := fun d m => (deep_go j d (ok_at ho m) (ink_mem (show inkDs ds = true from hi) m) (hm d m)).2
      have c1 := cut_le ds (some (-1)) none
      have c2 := cut_le ds none (some (-1))
      refine ⟨true, rfl, br_t ⟨(show _ ≤ 100000 by omega), (by decide : (3 : Nat) ≤ 100000), ⟨by decide, by decide, (show 3 ≤ 1000 by decide)⟩, (by decide : 20 + 6 ≤ 100000), five (odds ++ (List.replicate (2 : Int).toNat [D.lst ds, .tup (ds ++ cutL ds (some (-1)) none), .tup (cutL ds none (some (-1)))]).flatten) (go_app odds_go fun y my => ?_) (show 0 < 26 by decide) (show 26 ≤ 1000 by decide)⟩⟩
      have my : y ∈ [D.lst ds, .tup (ds ++ cutL ds (some (-1)) none), .tup (cutL ds none (some (-1)))] := by
        obtain ⟨l, ml, my⟩ := List.mem_flatten.mp my
        rw [List.eq_of_mem_replicate ml] at my
        exact my
      simp only [List.mem_cons, List.not_mem_nil, or_false] at my
      rcases my with rfl | rfl | rfl
      · exact (go_row (by omega) hgo).2
      · exact (go_row (by rw [List.length_append]; omega) (go_app hgo fun d m => hgo d (cut_sub m))).1
      · exact (go_row (by omega) fun d m => hgo d (cut_sub m)).1
    | ref _ => cases ho
    | exc _ => cases ho
    | val _ => cases ho
    | lst _ => unfold deep at hd; exact hd.elim
    | edict => unfold deep at hd; exact hd.elim
    | _ => exact ⟨false, rfl, br_f (five odds odds_go (by decide) (by decide))⟩
  · exact h.elim
end
end DL.K03
namespace DL.K03
open PySem PySem.Spec PyProof.Rows L2
section
variable {K : PySem.W.Frag} {c_BadRecord c_HouseError c_BadName c_BadLine c_BadLetter c_BadChange c_BadZone c_BadTurn c_BadRow k_KINDS : Addr} {S : Sto} {P : W → Sto → Prop} {EP : Value → Sto → Prop}
/-- a thing that may be spoilt -/
abbrev Fine (k : Nat) (x : D) : Prop := okD x = true ∧ inkD x = true ∧ deep k x
theorem fine_int (k : Nat) (i : Int) : Fine k (.int i) := ⟨rfl, rfl, by unfold deep; trivial⟩
theorem fine_str (k : Nat) {s : Str} (h : s.length ≤ 50000) (h2 : s.cps.toList.all printOk = true) : Fine k (.str s) := ⟨decide_eq_true h, h2, by unfold deep; trivial⟩
theorem fine_tup {k : Nat} {ds : List D} (hl : ds.length ≤ 9) (h : ∀ d ∈ ds, Fine k d) : Fine (k + 1) (.tup ds) :=
  ⟨okDs_of fun d m => (h d m).1, ink_of fun d m => (h d m).2.1, by unfold deep; exact ⟨hl, fun d m => (h d m).2.2⟩⟩
theorem sign_print {c : Nat} (h : signOk c = true) : printOk c = true := by
  have m : c ∈ cSIGNS.cps.toList := of_decide_eq_true h
  have q : (cSIGNS.cps.toList.all printOk) = true := by decide
  exact List.all_eq_true.mp q c m
theorem fine_name (k : Nat) {x : D} (h : nameD x = true) : Fine (k + 1) x := by
  obtain ⟨ds, rfl, hl, h1, h2⟩ := name_ex h
  refine fine_tup (by omega) fun d m => ?_
  obtain ⟨s, rfl, ps | rfl⟩ := name_lbl h1 h2 d m
  · have l8 : s.length ≤ 8 := by
      unfold plainS at ps
      rw [Bool.and_eq_true, Bool.and_eq_true] at ps
      have := of_decide_eq_true ps.1.2
      omega
    exact fine_str k (by omega) (List.all_eq_true.mpr fun c mc => sign_print (plain_signs ps c mc))
  · exact fine_str k (by decide) (by decide)
theorem kind_fine (k : Nat) {s : Str} (h : s ∈ kinds9) : Fine k (.str s) := by
  have q : (kinds9.all fun s => decide (s.length ≤ 50000) && s.cps.toList.all printOk) = true := by decide
  have := List.all_eq_true.mp q s h
  rw [Bool.and_eq_true] at this
  exact fine_str k (of_decide_eq_true this.1) this.2
theorem kinds_few {ss : List Str} (nd : ss.Nodup) (h : ∀ s ∈ ss, s ∈ kinds9) : ss.length ≤ 9 := by
  have nd2 : (kinds9.filter fun s => decide (s ∈ ss)).Nodup := kinds_nd.filter _
  have p : ss.Perm (kinds9.filter fun s => decide (s ∈ ss)) := (List.perm_ext_iff_of_nodup nd nd2).mpr fun s => by
    rw [List.mem_filter, decide_eq_true_eq]
    exact ⟨fun m => ⟨h s m, m⟩, fun m => m.2⟩
  rw [p.length_eq]
  exact Nat.le_trans (List.length_filter_le _ _) (Nat.le_refl _)
theorem data_fine {k : Str} (hk : kindD (.str k) = true) : ∀ x, dataD k x = true → Fine 2 x := by
  have cint : ∀ {a b : Int} {x : D}, amongD x a b = true → Fine 2 x := fun {a b x} hx => by
    obtain ⟨i, rfl, _⟩ := among_ex hx
    exact fine_int 2 i
  refine data_cases (M := fun k => ∀ x, dataD k x = true → Fine 2 x) hk ?_ ?_ ?_ ?_ ?_ ?_ ?_ ?_ ?_
  · exact fun x hx => cint hx
  · intro x hx
    obtain ⟨a, rfl, h1, h2⟩ := words_ex hx
    exact fine_str 2 (by omega) h2
  · exact fun x hx => fine_name 1 (star_name hx)
  · exact fun x hx => fine_name 1 (star_name hx)
  · intro x hx
    obtain ⟨a, b, rfl, _⟩ := top_ex hx
    refine fine_tup (by decide : 2 ≤ 9) fun d m => ?_
    simp only [List.mem_cons, List.not_mem_nil, or_false] at m
    rcases m with rfl | rfl <;> exact fine_int 1 _
  · exact fun x hx => cint hx
  · exact fun x hx => cint hx
  · intro x hx
    obtain ⟨k, b, c, rfl, hk, _⟩ := seal_ex hx
    refine fine_tup (by decide : 3 ≤ 9) fun d m => ?_
    simp only [List.mem_cons, List.not_mem_nil, or_false] at m
    rcases m with rfl | rfl | rfl
    · exact kind_fine 1 (of_decide_eq_true hk)
    · exact fine_int 1 _
    · exact fine_int 1 _
  · intro x hx
    obtain ⟨a, ks, rfl, ha, hks, hr⟩ := gap_ex hx
    obtain ⟨ss, rfl, hs⟩ := kinds_strs hks
    have nd : ss.Nodup := by
      cases ss with
      | nil => exact .nil
      | cons p q => exact (rise_srt p q hr).2
    refine fine_tup (by decide : 2 ≤ 9) fun d m => ?_
    simp only [List.mem_cons, List.not_mem_nil, or_false] at m
    rcases m with rfl | rfl
    · exact fine_name 0 ha
    · refine fine_tup (by rw [List.length_map]; exact kinds_few nd hs) fun d m => ?_
      obtain ⟨s, ms, rfl⟩ := List.mem_map.mp m
      exact kind_fine 0 (hs s ms)
theorem rec_fine {x : D} (h : recD x = true) : Fine 3 x := by
  obtain ⟨n, k, l, d, rfl, hn, hk, hl, hd⟩ := rec_ex h
  refine fine_tup (by decide : 4 ≤ 9) fun e m => ?_
  simp only [List.mem_cons, List.not_mem_nil, or_false] at m
  rcases m with rfl | rfl | rfl | rfl
  · exact fine_name 1 hn
  · exact kind_fine 2 (of_decide_eq_true hk)
  · obtain ⟨i, rfl, _⟩ := among_ex hl
    exact fine_int 2 i
  · exact data_fine hk _ hd
theorem rec_gd {x : D} (h : recD x = true) : Gd x := (deep_go 3 x (rec_fine h).1 (rec_fine h).2.1 (rec_fine h).2.2).2.1
end
end DL.K03
namespace DL.K03
open PySem PySem.Spec PyProof.Rows L2
section
variable {K : PySem.W.Frag} {c_BadRecord c_HouseError c_BadName c_BadLine c_BadLetter c_BadChange c_BadZone c_BadTurn c_BadRow k_KINDS : Addr} {S : Sto} {P : W → Sto → Prop} {EP : Value → Sto → Prop}
theorem same_no (x : D) : (!eqD x x) = false := by rw [eqD_refl]; rfl
theorem br_no {A B : Prop} {x : D} (h : B) : ((!eqD x x) = true → A) ∧ ((!eqD x x) = false → B) := by
  rw [same_no]
  exact br_f h
theorem rec_ck {x : D} (h : recD x = true) : ckN 3 x := (deep_go 3 x (rec_fine h).1 (rec_fine h).2.1 (rec_fine h).2.2).1
theorem recs_ck {rs : List D} (h : rs.all recD = true) : cmpOk (.lst rs) := (cn_lst (n := 3) fun d m => rec_ck (List.all_eq_true.mp h d m)).ck
theorem recs_ok {rs : List D} (h : rs.all recD = true) : okD (.lst rs) = true := okDs_of fun d m => (rec_gd (List.all_eq_true.mp h d m)).1
theorem sortR_perm (ds : List D) : (sortD rrD ds).Perm ds := List.mergeSort_perm ds _
theorem sortR_all {rs : List D} (h : rs.all recD = true) : (sortD rrD rs).all recD = true := List.all_eq_true.mpr fun d m => List.all_eq_true.mp h d ((sortR_perm rs).mem_iff.mp m)
theorem ord_g {c : Addr} {rs : List D} (h : rs.all recD = true) (hl : rs.length ≤ 100) {S : Sto} {P : W → Sto → Prop} {EP : Value → Sto → Prop} (q : P (.own (sortD rrD rs)) S) : g_p_ordered c [.lst rs] S P EP :=
  ⟨⟨recs_ok h, fun zs e => by cases e; exact ⟨(show _ ≤ _ by omega), fun d m => rec_gd (List.all_eq_true.mp h d m)⟩⟩, fun zs e _ => by cases e; exact q, fun z => by rw [show recsD (.lst rs) = rs.all recD from rfl, h] at z; cases z⟩
theorem ck_kinds : cmpOk kindsD := (cn_tup (n := 0) fun d m => by
  obtain ⟨s, _, rfl⟩ := List.mem_map.mp m
  exact cn_str 0 s).ck
theorem word_g {x : D} (h1 : okD x = true) (h2 : ∀ ns, x = .lst ns → sz ns.length ∧ ∀ d ∈ ns, Gd d) (h3 : recsD x = false) {S : Sto} {P : W → Sto → Prop} {EP : Value → Sto → Prop} (q : P (.d (.bl true)) S) : g_word [x] S P EP := ⟨⟨⟨h1, h2⟩, h3⟩, q⟩
theorem pure_law (F : KF K c_BadRecord c_HouseError c_BadName c_BadLine c_BadLetter c_BadChange c_BadZone c_BadTurn c_BadRow k_KINDS) : ∀ {ds : List D}, g_law ds S P EP → t_law K c_BadRecord c_HouseError c_BadName c_BadLine c_BadLetter c_BadChange c_BadZone c_BadTurn c_BadRow k_KINDS (EE EP) (DDs P) (startG 13 ds) S := fun {ds} h => by
  unfold g_law at h
  split at h
  · rename_i cs
    obtain ⟨⟨hc, hl, rfl⟩, h⟩ := h
    refine ⟨0, ⟨cs, hc, hl, 0, Int.le_refl _, Int.le_refl _, [], rfl⟩, by decide, fun l S1 hL hD => ?_⟩
    refine ⟨true, rfl, br_f ⟨ck_kinds, ck_kinds, br_no (x := kindsD) ?_⟩⟩
    refine ⟨_, hD, by decide, hL, fun rs S2 hr l9 hD2 => ?_⟩
    have hr' : ∀ d ∈ rs, recD d = true := fun d m => List.all_eq_true.mp hr d m
    refine ⟨⟨hr, by omega⟩, ?_⟩
    refine ord_g hr (by omega) ?_
    have er : sortD rrD rs.reverse = sortD rrD rs := srtR_uniq ((sortR_perm _).trans ((List.reverse_perm rs).trans (sortR_perm _).symm)) (sortR_srt _) (sortR_srt _) fun d m => List.all_eq_true.mp (sortR_all (by rw [List.all_reverse]; exact hr)) d m
    have cs' := recs_ck (sortR_all hr)
    have ls := (sortR_perm rs).length_eq
    refine ⟨true, rfl, br_f ⟨cs', cs', br_no ⟨recs_ck hr, recs_ck hr, br_no (ord_g (rs := rs.reverse) (by rw [List.all_reverse]; exact hr) (by rw [List.length_reverse]; omega) ?_)⟩⟩⟩
    rw [er]
    refine ⟨cs', cs', br_no ⟨(show (sortD rrD rs).length + 1 ≤ 100000 by omega), ord_g hr (by omega) ⟨cs', cs', br_no ?_⟩⟩⟩
    refine ⟨by decide, by decide, ?_⟩
    refine forL_inv (fun r Γ S => ∃ t7 t8 t9 t10 t11 t12 t6 t5 t4, Γ = [some (.d (.lst cs)), some (.d (.ref 0)), some (.d l), some (.d (.lst rs)), t4, t5, t6, t7, t8, t9, t10, t11, t12] ∧ r.length ≤ 4 ∧ Dr (2000 + 200 * (4 - (r.length : Int))) S) ?_ ?_ (intsFrom 0 (4 : Int).toNat) _ _ ⟨_, _, _, _, _, _, _, _, _, rfl, by decide, hD2.mono (by decide)⟩
    · rintro Γ S3 ⟨t7, t8, t9, t10, t11, t12, t6, t5, t4, rfl, _, hD3⟩
      refine ⟨(by decide : (5 : Nat) ≤ 100000), ?_⟩
      refine next_g (EP := EP) hD3 (by show (2000 : Int) + 200 * (4 - ((0 : Nat) : Int)) < _; omega) fun w S4 hD4 w0 w1 => ?_
      have hw := mod_rng w (m := 5) (by decide)
      obtain ⟨y, e, my, _⟩ := at_ex (xs := [D.non, .tup rs, .str ("records" : Str), .edict, .int 5]) hw.1 hw.2
      refine ⟨(by decide : (0 : Int) < 5), y, e, ?_⟩
      simp only [List.mem_cons, List.not_mem_nil, or_false] at my
      rcases my with rfl | rfl | rfl | rfl | rfl
      · exact word_g (EP := EP) (x := .non) rfl (fun ns q => nomatch q) rfl (h _)
      · exact word_g (EP := EP) (x := .tup rs) (recs_ok hr) (fun ns q => nomatch q) rfl (h _)
      · exact word_g (EP := EP) (x := .str ("records" : Str)) (by decide) (fun ns q => nomatch q) rfl (h _)
      · exact word_g (EP := EP) (x := .edict) rfl (fun ns q => nomatch q) rfl (h _)
      · exact word_g (EP := EP) (x := .int 5) rfl (fun ns q => nomatch q) rfl (h _)
    · rintro x r Γ S3 nx hnx ⟨t7, t8, t9, t10, t11, t12, t6, t5, t4, rfl, h4, hD3⟩
      rw [List.length_cons] at h4 hD3
      refine ⟨_, hD3, by omega, hL, fun y S4 hy hD4 => ?_⟩
      refine ⟨_, hD4, by omega, ⟨(rec_fine hy).1, (rec_fine hy).2.1, (rec_fine hy).2.2, by decide⟩, fun z S5 gz iz hD5 => ?_⟩
      refine ⟨gz, rec_gd hy, ?_⟩
      show ((!decide (recD y = true)) = true → _) ∧ ((!decide (recD y = true)) = false → _)
      rw [decide_eq_true hy]
      refine br_f ⟨true, rfl, br_f ⟨⟨gz, iz⟩, fun t => ⟨ck_bl _, ck_bl _, br_no ?_⟩⟩⟩
      refine next_g (EP := EP) (hD5.app t) (by omega) fun w S6 hD6 w0 w1 => ?_
      have hw := mod_rng w (m := (rs.length : Int) + 1) (by omega)
      refine ⟨(show (0 : Int) < (rs.length : Int) + 1 by omega), ?_⟩
      refine br (fun q => ?_) fun q => br_f (hnx _ _ ⟨_, _, _, _, _, _, _, _, _, rfl, by omega, hD6.mono (by omega)⟩)
      have q : recD z = false := nb q
      have c1 := cut_le rs none (some (w % ((rs.length : Int) + 1)))
      have c2 := cut_le rs (some (w % ((rs.length : Int) + 1))) none
      refine ⟨(by decide : (1 : Nat) ≤ 100000), (show _ + 1 ≤ 100000 by omega), (show _ ≤ 100000 by rw [List.length_append]; show _ + 1 + _ ≤ _; omega), ?_⟩
      have gall : ∀ d ∈ cutL rs none (some (w % ((rs.length : Int) + 1))) ++ [z] ++ cutL rs (some (w % ((rs.length : Int) + 1))) none, Gd d := fun d m => by
        rcases List.mem_append.mp m with m | m
        · rcases List.mem_append.mp m with m | m
          · exact rec_gd (hr' d (cut_sub m))
          · rw [List.mem_singleton.mp m]
            exact gz
        · exact rec_gd (hr' d (cut_sub m))
      refine word_g (EP := EP) (x := .lst (cutL rs none (some (w % ((rs.length : Int) + 1))) ++ [z] ++ cutL rs (some (w % ((rs.length : Int) + 1))) none)) (okDs_of fun d m => (gall d m).1) (fun ns e => ?_) ?_ (br_f (hnx _ _ ⟨_, _, _, _, _, _, _, _, _, rfl, by omega, hD6.mono (by omega)⟩))
      · cases e
        refine ⟨?_, gall⟩
        show _ ≤ 100000
        rw [List.length_append, List.length_append]
        show _ + 1 + _ ≤ _
        omega
      · show (cutL rs none (some (w % ((rs.length : Int) + 1))) ++ [z] ++ cutL rs (some (w % ((rs.length : Int) + 1))) none).all recD = false
        rw [List.all_append, List.all_append, List.all_cons, q, Bool.false_and, Bool.and_false, Bool.false_and]
  · exact h.elim
theorem entry {ns : List Int} (hl : ns.length ≤ 63) {P : W → Sto → Prop} {EP : Value → Sto → Prop} (h : ∀ S', P (.d (.bl true)) S') : g_law [.lst (ns.map D.int)] [] P EP :=
  ⟨⟨fun c m => by
    obtain ⟨i, _, rfl⟩ := List.mem_map.mp m
    exact ⟨i, rfl⟩, by rw [List.length_map]; exact hl, rfl⟩, h⟩
end
end DL.K03
namespace DL.K03
open PySem PySem.Spec PyProof.Rows L2
theorem ok_p_is_plain {P : Program} {wd : World} {K : PySem.W.Frag} {mg : Str → Option Value} {base : Heap} {c_BadRecord c_HouseError c_BadName c_BadLine c_BadLetter c_BadChange c_BadZone c_BadTurn c_BadRow k_KINDS : Addr} (T : Txt K mg c_BadRecord c_HouseError c_BadName c_BadLine c_BadLetter c_BadChange c_BadZone c_BadTurn c_BadRow k_KINDS) (F : KF K c_BadRecord c_HouseError c_BadName c_BadLine c_BadLetter c_BadChange c_BadZone c_BadTurn c_BadRow k_KINDS)  (r : Raw K mg "is_plain" st_p_is_plain ps_p_is_plain) : Has P wd K mg base 1 "is_plain" ps_p_is_plain g_p_is_plain :=
  has_ok r sc_p_is_plain (fun ds S P EP h => by first | exact len0 ds S P EP h | exact len1 ds S P EP h | exact len2 ds S P EP h | exact len3 ds S P EP h | (unfold g_p_is_plain at h; split at h <;> first | rfl | exact h.elim))
    fun f cdv A outer s H E B P0 EP ds S hr dx h => ⟨_, w_p_is_plain T  hr dx, pure_p_is_plain h⟩
theorem ok_p_is_label {P : Program} {wd : World} {K : PySem.W.Frag} {mg : Str → Option Value} {base : Heap} {c_BadRecord c_HouseError c_BadName c_BadLine c_BadLetter c_BadChange c_BadZone c_BadTurn c_BadRow k_KINDS : Addr} (T : Txt K mg c_BadRecord c_HouseError c_BadName c_BadLine c_BadLetter c_BadChange c_BadZone c_BadTurn c_BadRow k_KINDS) (F : KF K c_BadRecord c_HouseError c_BadName c_BadLine c_BadLetter c_BadChange c_BadZone c_BadTurn c_BadRow k_KINDS) (h_p_is_plain : Has P wd K mg base 1 "is_plain" ps_p_is_plain g_p_is_plain) (r : Raw K mg "is_label" st_p_is_label ps_p_is_label) : Has P wd K mg base 2 "is_label" ps_p_is_label g_p_is_label :=
  has_ok r sc_p_is_label (fun ds S P EP h => by first | exact len0 ds S P EP h | exact len1 ds S P EP h | exact len2 ds S P EP h | exact len3 ds S P EP h | (unfold g_p_is_label at h; split at h <;> first | rfl | exact h.elim))
    fun f cdv A outer s H E B P0 EP ds S hr dx h => ⟨_, w_p_is_label T h_p_is_plain hr dx, pure_p_is_label h⟩
theorem ok_p_is_name {P : Program} {wd : World} {K : PySem.W.Frag} {mg : Str → Option Value} {base : Heap} {c_BadRecord c_HouseError c_BadName c_BadLine c_BadLetter c_BadChange c_BadZone c_BadTurn c_BadRow k_KINDS : Addr} (T : Txt K mg c_BadRecord c_HouseError c_BadName c_BadLine c_BadLetter c_BadChange c_BadZone c_BadTurn c_BadRow k_KINDS) (F : KF K c_BadRecord c_HouseError c_BadName c_BadLine c_BadLetter c_BadChange c_BadZone c_BadTurn c_BadRow k_KINDS) (h_p_is_label : Has P wd K mg base 2 "is_label" ps_p_is_label g_p_is_label) (h_p_is_plain : Has P wd K mg base 1 "is_plain" ps_p_is_plain g_p_is_plain) (r : Raw K mg "is_name" st_p_is_name ps_p_is_name) : Has P wd K mg base 3 "is_name" ps_p_is_name g_p_is_name :=
  has_ok r sc_p_is_name (fun ds S P EP h => by first | exact len0 ds S P EP h | exact len1 ds S P EP h | exact len2 ds S P EP h | exact len3 ds S P EP h | (unfold g_p_is_name at h; split at h <;> first | rfl | exact h.elim))
    fun f cdv A outer s H E B P0 EP ds S hr dx h => ⟨_, w_p_is_name T h_p_is_label h_p_is_plain hr dx, pure_p_is_name h⟩
theorem ok_p_is_starless {P : Program} {wd : World} {K : PySem.W.Frag} {mg : Str → Option Value} {base : Heap} {c_BadRecord c_HouseError c_BadName c_BadLine c_BadLetter c_BadChange c_BadZone c_BadTurn c_BadRow k_KINDS : Addr} (T : Txt K mg c_BadRecord c_HouseError c_BadName c_BadLine c_BadLetter c_BadChange c_BadZone c_BadTurn c_BadRow k_KINDS) (F : KF K c_BadRecord c_HouseError c_BadName c_BadLine c_BadLetter c_BadChange c_BadZone c_BadTurn c_BadRow k_KINDS) (h_p_is_name : Has P wd K mg base 3 "is_name" ps_p_is_name g_p_is_name) (r : Raw K mg "is_starless" st_p_is_starless ps_p_is_starless) : Has P wd K mg base 4 "is_starless" ps_p_is_starless g_p_is_starless :=
  has_ok r sc_p_is_starless (fun ds S P EP h => by first | exact len0 ds S P EP h | exact len1 ds S P EP h | exact len2 ds S P EP h | exact len3 ds S P EP h | (unfold g_p_is_starless at h; split at h <;> first | rfl | exact h.elim))
    fun f cdv A outer s H E B P0 EP ds S hr dx h => ⟨_, w_p_is_starless T h_p_is_name hr dx, pure_p_is_starless h⟩
theorem ok_p_name_rank {P : Program} {wd : World} {K : PySem.W.Frag} {mg : Str → Option Value} {base : Heap} {c_BadRecord c_HouseError c_BadName c_BadLine c_BadLetter c_BadChange c_BadZone c_BadTurn c_BadRow k_KINDS : Addr} (T : Txt K mg c_BadRecord c_HouseError c_BadName c_BadLine c_BadLetter c_BadChange c_BadZone c_BadTurn c_BadRow k_KINDS) (F : KF K c_BadRecord c_HouseError c_BadName c_BadLine c_BadLetter c_BadChange c_BadZone c_BadTurn c_BadRow k_KINDS)  (r : Raw K mg "name_rank" st_p_name_rank ps_p_name_rank) : Has P wd K mg base 1 "name_rank" ps_p_name_rank g_p_name_rank :=
  has_ok r sc_p_name_rank (fun ds S P EP h => by first | exact len0 ds S P EP h | exact len1 ds S P EP h | exact len2 ds S P EP h | exact len3 ds S P EP h | (unfold g_p_name_rank at h; split at h <;> first | rfl | exact h.elim))
    fun f cdv A outer s H E B P0 EP ds S hr dx h => ⟨_, w_p_name_rank T  hr dx, pure_p_name_rank h⟩
theorem ok_p_is_among {P : Program} {wd : World} {K : PySem.W.Frag} {mg : Str → Option Value} {base : Heap} {c_BadRecord c_HouseError c_BadName c_BadLine c_BadLetter c_BadChange c_BadZone c_BadTurn c_BadRow k_KINDS : Addr} (T : Txt K mg c_BadRecord c_HouseError c_BadName c_BadLine c_BadLetter c_BadChange c_BadZone c_BadTurn c_BadRow k_KINDS) (F : KF K c_BadRecord c_HouseError c_BadName c_BadLine c_BadLetter c_BadChange c_BadZone c_BadTurn c_BadRow k_KINDS)  (r : Raw K mg "is_among" st_p_is_among ps_p_is_among) : Has P wd K mg base 1 "is_among" ps_p_is_among g_p_is_among :=
  has_ok r sc_p_is_among (fun ds S P EP h => by first | exact len0 ds S P EP h | exact len1 ds S P EP h | exact len2 ds S P EP h | exact len3 ds S P EP h | (unfold g_p_is_among at h; split at h <;> first | rfl | exact h.elim))
    fun f cdv A outer s H E B P0 EP ds S hr dx h => ⟨_, w_p_is_among T  hr dx, pure_p_is_among h⟩
theorem ok_p_is_kind {P : Program} {wd : World} {K : PySem.W.Frag} {mg : Str → Option Value} {base : Heap} {c_BadRecord c_HouseError c_BadName c_BadLine c_BadLetter c_BadChange c_BadZone c_BadTurn c_BadRow k_KINDS : Addr} (T : Txt K mg c_BadRecord c_HouseError c_BadName c_BadLine c_BadLetter c_BadChange c_BadZone c_BadTurn c_BadRow k_KINDS) (F : KF K c_BadRecord c_HouseError c_BadName c_BadLine c_BadLetter c_BadChange c_BadZone c_BadTurn c_BadRow k_KINDS)  (r : Raw K mg "is_kind" st_p_is_kind ps_p_is_kind) : Has P wd K mg base 1 "is_kind" ps_p_is_kind g_p_is_kind :=
  has_ok r sc_p_is_kind (fun ds S P EP h => by first | exact len0 ds S P EP h | exact len1 ds S P EP h | exact len2 ds S P EP h | exact len3 ds S P EP h | (unfold g_p_is_kind at h; split at h <;> first | rfl | exact h.elim))
    fun f cdv A outer s H E B P0 EP ds S hr dx h => ⟨_, w_p_is_kind T  hr dx, pure_p_is_kind h⟩
theorem ok_p_is_live {P : Program} {wd : World} {K : PySem.W.Frag} {mg : Str → Option Value} {base : Heap} {c_BadRecord c_HouseError c_BadName c_BadLine c_BadLetter c_BadChange c_BadZone c_BadTurn c_BadRow k_KINDS : Addr} (T : Txt K mg c_BadRecord c_HouseError c_BadName c_BadLine c_BadLetter c_BadChange c_BadZone c_BadTurn c_BadRow k_KINDS) (F : KF K c_BadRecord c_HouseError c_BadName c_BadLine c_BadLetter c_BadChange c_BadZone c_BadTurn c_BadRow k_KINDS) (h_p_is_among : Has P wd K mg base 1 "is_among" ps_p_is_among g_p_is_among) (r : Raw K mg "is_live" st_p_is_live ps_p_is_live) : Has P wd K mg base 2 "is_live" ps_p_is_live g_p_is_live :=
  has_ok r sc_p_is_live (fun ds S P EP h => by first | exact len0 ds S P EP h | exact len1 ds S P EP h | exact len2 ds S P EP h | exact len3 ds S P EP h | (unfold g_p_is_live at h; split at h <;> first | rfl | exact h.elim))
    fun f cdv A outer s H E B P0 EP ds S hr dx h => ⟨_, w_p_is_live T h_p_is_among hr dx, pure_p_is_live h⟩
theorem ok_p_is_words {P : Program} {wd : World} {K : PySem.W.Frag} {mg : Str → Option Value} {base : Heap} {c_BadRecord c_HouseError c_BadName c_BadLine c_BadLetter c_BadChange c_BadZone c_BadTurn c_BadRow k_KINDS : Addr} (T : Txt K mg c_BadRecord c_HouseError c_BadName c_BadLine c_BadLetter c_BadChange c_BadZone c_BadTurn c_BadRow k_KINDS) (F : KF K c_BadRecord c_HouseError c_BadName c_BadLine c_BadLetter c_BadChange c_BadZone c_BadTurn c_BadRow k_KINDS)  (r : Raw K mg "is_words" st_p_is_words ps_p_is_words) : Has P wd K mg base 1 "is_words" ps_p_is_words g_p_is_words :=
  has_ok r sc_p_is_words (fun ds S P EP h => by first | exact len0 ds S P EP h | exact len1 ds S P EP h | exact len2 ds S P EP h | exact len3 ds S P EP h | (unfold g_p_is_words at h; split at h <;> first | rfl | exact h.elim))
    fun f cdv A outer s H E B P0 EP ds S hr dx h => ⟨_, w_p_is_words T  hr dx, pure_p_is_words h⟩
theorem ok_p_is_top {P : Program} {wd : World} {K : PySem.W.Frag} {mg : Str → Option Value} {base : Heap} {c_BadRecord c_HouseError c_BadName c_BadLine c_BadLetter c_BadChange c_BadZone c_BadTurn c_BadRow k_KINDS : Addr} (T : Txt K mg c_BadRecord c_HouseError c_BadName c_BadLine c_BadLetter c_BadChange c_BadZone c_BadTurn c_BadRow k_KINDS) (F : KF K c_BadRecord c_HouseError c_BadName c_BadLine c_BadLetter c_BadChange c_BadZone c_BadTurn c_BadRow k_KINDS) (h_p_is_among : Has P wd K mg base 1 "is_among" ps_p_is_among g_p_is_among) (h_p_is_live : Has P wd K mg base 2 "is_live" ps_p_is_live g_p_is_live) (r : Raw K mg "is_top" st_p_is_top ps_p_is_top) : Has P wd K mg base 3 "is_top" ps_p_is_top g_p_is_top :=
  has_ok r sc_p_is_top (fun ds S P EP h => by first | exact len0 ds S P EP h | exact len1 ds S P EP h | exact len2 ds S P EP h | exact len3 ds S P EP h | (unfold g_p_is_top at h; split at h <;> first | rfl | exact h.elim))
    fun f cdv A outer s H E B P0 EP ds S hr dx h => ⟨_, w_p_is_top T h_p_is_among h_p_is_live hr dx, pure_p_is_top h⟩
theorem ok_p_is_seal {P : Program} {wd : World} {K : PySem.W.Frag} {mg : Str → Option Value} {base : Heap} {c_BadRecord c_HouseError c_BadName c_BadLine c_BadLetter c_BadChange c_BadZone c_BadTurn c_BadRow k_KINDS : Addr} (T : Txt K mg c_BadRecord c_HouseError c_BadName c_BadLine c_BadLetter c_BadChange c_BadZone c_BadTurn c_BadRow k_KINDS) (F : KF K c_BadRecord c_HouseError c_BadName c_BadLine c_BadLetter c_BadChange c_BadZone c_BadTurn c_BadRow k_KINDS) (h_p_is_kind : Has P wd K mg base 1 "is_kind" ps_p_is_kind g_p_is_kind) (h_p_is_among : Has P wd K mg base 1 "is_among" ps_p_is_among g_p_is_among) (r : Raw K mg "is_seal" st_p_is_seal ps_p_is_seal) : Has P wd K mg base 2 "is_seal" ps_p_is_seal g_p_is_seal :=
  has_ok r sc_p_is_seal (fun ds S P EP h => by first | exact len0 ds S P EP h | exact len1 ds S P EP h | exact len2 ds S P EP h | exact len3 ds S P EP h | (unfold g_p_is_seal at h; split at h <;> first | rfl | exact h.elim))
    fun f cdv A outer s H E B P0 EP ds S hr dx h => ⟨_, w_p_is_seal T h_p_is_kind h_p_is_among hr dx, pure_p_is_seal h⟩
theorem ok_p_is_gap {P : Program} {wd : World} {K : PySem.W.Frag} {mg : Str → Option Value} {base : Heap} {c_BadRecord c_HouseError c_BadName c_BadLine c_BadLetter c_BadChange c_BadZone c_BadTurn c_BadRow k_KINDS : Addr} (T : Txt K mg c_BadRecord c_HouseError c_BadName c_BadLine c_BadLetter c_BadChange c_BadZone c_BadTurn c_BadRow k_KINDS) (F : KF K c_BadRecord c_HouseError c_BadName c_BadLine c_BadLetter c_BadChange c_BadZone c_BadTurn c_BadRow k_KINDS) (h_p_is_name : Has P wd K mg base 3 "is_name" ps_p_is_name g_p_is_name) (h_p_is_kind : Has P wd K mg base 1 "is_kind" ps_p_is_kind g_p_is_kind) (r : Raw K mg "is_gap" st_p_is_gap ps_p_is_gap) : Has P wd K mg base 4 "is_gap" ps_p_is_gap g_p_is_gap :=
  has_ok r sc_p_is_gap (fun ds S P EP h => by first | exact len0 ds S P EP h | exact len1 ds S P EP h | exact len2 ds S P EP h | exact len3 ds S P EP h | (unfold g_p_is_gap at h; split at h <;> first | rfl | exact h.elim))
    fun f cdv A outer s H E B P0 EP ds S hr dx h => ⟨_, w_p_is_gap T h_p_is_name h_p_is_kind hr dx, pure_p_is_gap h⟩
theorem ok_p_is_data {P : Program} {wd : World} {K : PySem.W.Frag} {mg : Str → Option Value} {base : Heap} {c_BadRecord c_HouseError c_BadName c_BadLine c_BadLetter c_BadChange c_BadZone c_BadTurn c_BadRow k_KINDS : Addr} (T : Txt K mg c_BadRecord c_HouseError c_BadName c_BadLine c_BadLetter c_BadChange c_BadZone c_BadTurn c_BadRow k_KINDS) (F : KF K c_BadRecord c_HouseError c_BadName c_BadLine c_BadLetter c_BadChange c_BadZone c_BadTurn c_BadRow k_KINDS) (h_p_is_among : Has P wd K mg base 1 "is_among" ps_p_is_among g_p_is_among) (h_p_is_words : Has P wd K mg base 1 "is_words" ps_p_is_words g_p_is_words) (h_p_is_starless : Has P wd K mg base 4 "is_starless" ps_p_is_starless g_p_is_starless) (h_p_is_top : Has P wd K mg base 3 "is_top" ps_p_is_top g_p_is_top) (h_p_is_seal : Has P wd K mg base 2 "is_seal" ps_p_is_seal g_p_is_seal) (h_p_is_gap : Has P wd K mg base 4 "is_gap" ps_p_is_gap g_p_is_gap) (r : Raw K mg "is_data" st_p_is_data ps_p_is_data) : Has P wd K mg base 5 "is_data" ps_p_is_data g_p_is_data :=
  has_ok r sc_p_is_data (fun ds S P EP h => by first | exact len0 ds S P EP h | exact len1 ds S P EP h | exact len2 ds S P EP h | exact len3 ds S P EP h | (unfold g_p_is_data at h; split at h <;> first | rfl | exact h.elim))
    fun f cdv A outer s H E B P0 EP ds S hr dx h => ⟨_, w_p_is_data T h_p_is_among h_p_is_words h_p_is_starless h_p_is_top h_p_is_seal h_p_is_gap hr dx, pure_p_is_data h⟩
theorem ok_p_is_record {P : Program} {wd : World} {K : PySem.W.Frag} {mg : Str → Option Value} {base : Heap} {c_BadRecord c_HouseError c_BadName c_BadLine c_BadLetter c_BadChange c_BadZone c_BadTurn c_BadRow k_KINDS : Addr} (T : Txt K mg c_BadRecord c_HouseError c_BadName c_BadLine c_BadLetter c_BadChange c_BadZone c_BadTurn c_BadRow k_KINDS) (F : KF K c_BadRecord c_HouseError c_BadName c_BadLine c_BadLetter c_BadChange c_BadZone c_BadTurn c_BadRow k_KINDS) (h_p_is_name : Has P wd K mg base 3 "is_name" ps_p_is_name g_p_is_name) (h_p_is_kind : Has P wd K mg base 1 "is_kind" ps_p_is_kind g_p_is_kind) (h_p_is_live : Has P wd K mg base 2 "is_live" ps_p_is_live g_p_is_live) (h_p_is_data : Has P wd K mg base 5 "is_data" ps_p_is_data g_p_is_data) (r : Raw K mg "is_record" st_p_is_record ps_p_is_record) : Has P wd K mg base 6 "is_record" ps_p_is_record g_p_is_record :=
  has_ok r sc_p_is_record (fun ds S P EP h => by first | exact len0 ds S P EP h | exact len1 ds S P EP h | exact len2 ds S P EP h | exact len3 ds S P EP h | (unfold g_p_is_record at h; split at h <;> first | rfl | exact h.elim))
    fun f cdv A outer s H E B P0 EP ds S hr dx h => ⟨_, w_p_is_record T h_p_is_name h_p_is_kind h_p_is_live h_p_is_data hr dx, pure_p_is_record h⟩
theorem ok_p_data_rank {P : Program} {wd : World} {K : PySem.W.Frag} {mg : Str → Option Value} {base : Heap} {c_BadRecord c_HouseError c_BadName c_BadLine c_BadLetter c_BadChange c_BadZone c_BadTurn c_BadRow k_KINDS : Addr} (T : Txt K mg c_BadRecord c_HouseError c_BadName c_BadLine c_BadLetter c_BadChange c_BadZone c_BadTurn c_BadRow k_KINDS) (F : KF K c_BadRecord c_HouseError c_BadName c_BadLine c_BadLetter c_BadChange c_BadZone c_BadTurn c_BadRow k_KINDS) (h_p_name_rank : Has P wd K mg base 1 "name_rank" ps_p_name_rank g_p_name_rank) (r : Raw K mg "data_rank" st_p_data_rank ps_p_data_rank) : Has P wd K mg base 2 "data_rank" ps_p_data_rank g_p_data_rank :=
  has_ok r sc_p_data_rank (fun ds S P EP h => by first | exact len0 ds S P EP h | exact len1 ds S P EP h | exact len2 ds S P EP h | exact len3 ds S P EP h | (unfold g_p_data_rank at h; split at h <;> first | rfl | exact h.elim))
    fun f cdv A outer s H E B P0 EP ds S hr dx h => ⟨_, w_p_data_rank T h_p_name_rank hr dx, pure_p_data_rank h⟩
theorem ok_p_record_rank {P : Program} {wd : World} {K : PySem.W.Frag} {mg : Str → Option Value} {base : Heap} {c_BadRecord c_HouseError c_BadName c_BadLine c_BadLetter c_BadChange c_BadZone c_BadTurn c_BadRow k_KINDS : Addr} (T : Txt K mg c_BadRecord c_HouseError c_BadName c_BadLine c_BadLetter c_BadChange c_BadZone c_BadTurn c_BadRow k_KINDS) (F : KF K c_BadRecord c_HouseError c_BadName c_BadLine c_BadLetter c_BadChange c_BadZone c_BadTurn c_BadRow k_KINDS) (h_p_data_rank : Has P wd K mg base 2 "data_rank" ps_p_data_rank g_p_data_rank) (h_p_name_rank : Has P wd K mg base 1 "name_rank" ps_p_name_rank g_p_name_rank) (r : Raw K mg "record_rank" st_p_record_rank ps_p_record_rank) : Has P wd K mg base 3 "record_rank" ps_p_record_rank g_p_record_rank :=
  has_ok r sc_p_record_rank (fun ds S P EP h => by first | exact len0 ds S P EP h | exact len1 ds S P EP h | exact len2 ds S P EP h | exact len3 ds S P EP h | (unfold g_p_record_rank at h; split at h <;> first | rfl | exact h.elim))
    fun f cdv A outer s H E B P0 EP ds S hr dx h => ⟨_, w_p_record_rank T h_p_data_rank h_p_name_rank hr dx, pure_p_record_rank h⟩
theorem ok_p_are_records {P : Program} {wd : World} {K : PySem.W.Frag} {mg : Str → Option Value} {base : Heap} {c_BadRecord c_HouseError c_BadName c_BadLine c_BadLetter c_BadChange c_BadZone c_BadTurn c_BadRow k_KINDS : Addr} (T : Txt K mg c_BadRecord c_HouseError c_BadName c_BadLine c_BadLetter c_BadChange c_BadZone c_BadTurn c_BadRow k_KINDS) (F : KF K c_BadRecord c_HouseError c_BadName c_BadLine c_BadLetter c_BadChange c_BadZone c_BadTurn c_BadRow k_KINDS) (h_p_is_record : Has P wd K mg base 6 "is_record" ps_p_is_record g_p_is_record) (r : Raw K mg "are_records" st_p_are_records ps_p_are_records) : Has P wd K mg base 7 "are_records" ps_p_are_records g_p_are_records :=
  has_ok r sc_p_are_records (fun ds S P EP h => by first | exact len0 ds S P EP h | exact len1 ds S P EP h | exact len2 ds S P EP h | exact len3 ds S P EP h | (unfold g_p_are_records at h; split at h <;> first | rfl | exact h.elim))
    fun f cdv A outer s H E B P0 EP ds S hr dx h => ⟨_, w_p_are_records T h_p_is_record hr dx, pure_p_are_records h⟩
theorem ok_p_in_order {P : Program} {wd : World} {K : PySem.W.Frag} {mg : Str → Option Value} {base : Heap} {c_BadRecord c_HouseError c_BadName c_BadLine c_BadLetter c_BadChange c_BadZone c_BadTurn c_BadRow k_KINDS : Addr} (T : Txt K mg c_BadRecord c_HouseError c_BadName c_BadLine c_BadLetter c_BadChange c_BadZone c_BadTurn c_BadRow k_KINDS) (F : KF K c_BadRecord c_HouseError c_BadName c_BadLine c_BadLetter c_BadChange c_BadZone c_BadTurn c_BadRow k_KINDS) (h_p_record_rank : Has P wd K mg base 3 "record_rank" ps_p_record_rank g_p_record_rank) (r : Raw K mg "in_order" st_p_in_order ps_p_in_order) : Has P wd K mg base 5 "in_order" ps_p_in_order g_p_in_order :=
  has_ok r sc_p_in_order (fun ds S P EP h => by first | exact len0 ds S P EP h | exact len1 ds S P EP h | exact len2 ds S P EP h | exact len3 ds S P EP h | (unfold g_p_in_order at h; split at h <;> first | rfl | exact h.elim))
    fun f cdv A outer s H E B P0 EP ds S hr dx h => ⟨_, w_p_in_order T h_p_record_rank hr dx, pure_p_in_order h⟩
theorem ok_p_ordered {P : Program} {wd : World} {K : PySem.W.Frag} {mg : Str → Option Value} {base : Heap} {c_BadRecord c_HouseError c_BadName c_BadLine c_BadLetter c_BadChange c_BadZone c_BadTurn c_BadRow k_KINDS : Addr} (T : Txt K mg c_BadRecord c_HouseError c_BadName c_BadLine c_BadLetter c_BadChange c_BadZone c_BadTurn c_BadRow k_KINDS) (F : KF K c_BadRecord c_HouseError c_BadName c_BadLine c_BadLetter c_BadChange c_BadZone c_BadTurn c_BadRow k_KINDS) (h_p_are_records : Has P wd K mg base 7 "are_records" ps_p_are_records g_p_are_records) (h_p_in_order : Has P wd K mg base 5 "in_order" ps_p_in_order g_p_in_order) (r : Raw K mg "ordered" st_p_ordered ps_p_ordered) : Has P wd K mg base 8 "ordered" ps_p_ordered (g_p_ordered c_BadRecord) :=
  has_ok r sc_p_ordered (fun ds S P EP h => by first | exact len0 ds S P EP h | exact len1 ds S P EP h | exact len2 ds S P EP h | exact len3 ds S P EP h | (unfold g_p_ordered at h; split at h <;> first | rfl | exact h.elim))
    fun f cdv A outer s H E B P0 EP ds S hr dx h => ⟨_, w_p_ordered T h_p_are_records h_p_in_order hr dx, pure_p_ordered h⟩
theorem ok_cell_at {P : Program} {wd : World} {K : PySem.W.Frag} {mg : Str → Option Value} {base : Heap} {c_BadRecord c_HouseError c_BadName c_BadLine c_BadLetter c_BadChange c_BadZone c_BadTurn c_BadRow k_KINDS : Addr} (T : Txt K mg c_BadRecord c_HouseError c_BadName c_BadLine c_BadLetter c_BadChange c_BadZone c_BadTurn c_BadRow k_KINDS) (F : KF K c_BadRecord c_HouseError c_BadName c_BadLine c_BadLetter c_BadChange c_BadZone c_BadTurn c_BadRow k_KINDS)  (r : Raw K mg "_law_cell_at" st_cell_at ps_cell_at) : Has P wd K mg base 1 "_law_cell_at" ps_cell_at g_cell_at :=
  has_ok r sc_cell_at (fun ds S P EP h => by first | exact len0 ds S P EP h | exact len1 ds S P EP h | exact len2 ds S P EP h | exact len3 ds S P EP h | (unfold g_cell_at at h; split at h <;> first | rfl | exact h.elim))
    fun f cdv A outer s H E B P0 EP ds S hr dx h => ⟨_, w_cell_at T  hr dx, pure_cell_at h⟩
theorem ok_next {P : Program} {wd : World} {K : PySem.W.Frag} {mg : Str → Option Value} {base : Heap} {c_BadRecord c_HouseError c_BadName c_BadLine c_BadLetter c_BadChange c_BadZone c_BadTurn c_BadRow k_KINDS : Addr} (T : Txt K mg c_BadRecord c_HouseError c_BadName c_BadLine c_BadLetter c_BadChange c_BadZone c_BadTurn c_BadRow k_KINDS) (F : KF K c_BadRecord c_HouseError c_BadName c_BadLine c_BadLetter c_BadChange c_BadZone c_BadTurn c_BadRow k_KINDS) (h_cell_at : Has P wd K mg base 1 "_law_cell_at" ps_cell_at g_cell_at) (r : Raw K mg "_law_next" st_next ps_next) : Has P wd K mg base 2 "_law_next" ps_next g_next :=
  has_ok r sc_next (fun ds S P EP h => by first | exact len0 ds S P EP h | exact len1 ds S P EP h | exact len2 ds S P EP h | exact len3 ds S P EP h | (unfold g_next at h; split at h <;> first | rfl | exact h.elim))
    fun f cdv A outer s H E B P0 EP ds S hr dx h => ⟨_, w_next T h_cell_at hr dx, pure_next h⟩
theorem ok_great {P : Program} {wd : World} {K : PySem.W.Frag} {mg : Str → Option Value} {base : Heap} {c_BadRecord c_HouseError c_BadName c_BadLine c_BadLetter c_BadChange c_BadZone c_BadTurn c_BadRow k_KINDS : Addr} (T : Txt K mg c_BadRecord c_HouseError c_BadName c_BadLine c_BadLetter c_BadChange c_BadZone c_BadTurn c_BadRow k_KINDS) (F : KF K c_BadRecord c_HouseError c_BadName c_BadLine c_BadLetter c_BadChange c_BadZone c_BadTurn c_BadRow k_KINDS) (h_next : Has P wd K mg base 2 "_law_next" ps_next g_next) (r : Raw K mg "_law_great" st_great ps_great) : Has P wd K mg base 3 "_law_great" ps_great g_great :=
  has_ok r sc_great (fun ds S P EP h => by first | exact len0 ds S P EP h | exact len1 ds S P EP h | exact len2 ds S P EP h | exact len3 ds S P EP h | (unfold g_great at h; split at h <;> first | rfl | exact h.elim))
    fun f cdv A outer s H E B P0 EP ds S hr dx h => ⟨_, w_great T h_next hr dx, pure_great h⟩
theorem ok_signs {P : Program} {wd : World} {K : PySem.W.Frag} {mg : Str → Option Value} {base : Heap} {c_BadRecord c_HouseError c_BadName c_BadLine c_BadLetter c_BadChange c_BadZone c_BadTurn c_BadRow k_KINDS : Addr} (T : Txt K mg c_BadRecord c_HouseError c_BadName c_BadLine c_BadLetter c_BadChange c_BadZone c_BadTurn c_BadRow k_KINDS) (F : KF K c_BadRecord c_HouseError c_BadName c_BadLine c_BadLetter c_BadChange c_BadZone c_BadTurn c_BadRow k_KINDS)  (r : Raw K mg "_law_signs" st_signs ps_signs) : Has P wd K mg base 1 "_law_signs" ps_signs g_signs :=
  has_ok r sc_signs (fun ds S P EP h => by first | exact len0 ds S P EP h | exact len1 ds S P EP h | exact len2 ds S P EP h | exact len3 ds S P EP h | (unfold g_signs at h; split at h <;> first | rfl | exact h.elim))
    fun f cdv A outer s H E B P0 EP ds S hr dx h => ⟨_, w_signs T  hr dx, pure_signs h⟩
theorem ok_label {P : Program} {wd : World} {K : PySem.W.Frag} {mg : Str → Option Value} {base : Heap} {c_BadRecord c_HouseError c_BadName c_BadLine c_BadLetter c_BadChange c_BadZone c_BadTurn c_BadRow k_KINDS : Addr} (T : Txt K mg c_BadRecord c_HouseError c_BadName c_BadLine c_BadLetter c_BadChange c_BadZone c_BadTurn c_BadRow k_KINDS) (F : KF K c_BadRecord c_HouseError c_BadName c_BadLine c_BadLetter c_BadChange c_BadZone c_BadTurn c_BadRow k_KINDS) (h_signs : Has P wd K mg base 1 "_law_signs" ps_signs g_signs) (r : Raw K mg "_law_label" st_label ps_label) : Has P wd K mg base 2 "_law_label" ps_label g_label :=
  has_ok r sc_label (fun ds S P EP h => by first | exact len0 ds S P EP h | exact len1 ds S P EP h | exact len2 ds S P EP h | exact len3 ds S P EP h | (unfold g_label at h; split at h <;> first | rfl | exact h.elim))
    fun f cdv A outer s H E B P0 EP ds S hr dx h => ⟨_, w_label T h_signs hr dx, pure_label h⟩
theorem ok_labels {P : Program} {wd : World} {K : PySem.W.Frag} {mg : Str → Option Value} {base : Heap} {c_BadRecord c_HouseError c_BadName c_BadLine c_BadLetter c_BadChange c_BadZone c_BadTurn c_BadRow k_KINDS : Addr} (T : Txt K mg c_BadRecord c_HouseError c_BadName c_BadLine c_BadLetter c_BadChange c_BadZone c_BadTurn c_BadRow k_KINDS) (F : KF K c_BadRecord c_HouseError c_BadName c_BadLine c_BadLetter c_BadChange c_BadZone c_BadTurn c_BadRow k_KINDS) (h_label : Has P wd K mg base 2 "_law_label" ps_label g_label) (h_next : Has P wd K mg base 2 "_law_next" ps_next g_next) (h_signs : Has P wd K mg base 1 "_law_signs" ps_signs g_signs) (r : Raw K mg "_law_labels" st_labels ps_labels) : Has P wd K mg base 3 "_law_labels" ps_labels g_labels :=
  has_ok r sc_labels (fun ds S P EP h => by first | exact len0 ds S P EP h | exact len1 ds S P EP h | exact len2 ds S P EP h | exact len3 ds S P EP h | (unfold g_labels at h; split at h <;> first | rfl | exact h.elim))
    fun f cdv A outer s H E B P0 EP ds S hr dx h => ⟨_, w_labels T h_label h_next h_signs hr dx, pure_labels h⟩
theorem ok_name {P : Program} {wd : World} {K : PySem.W.Frag} {mg : Str → Option Value} {base : Heap} {c_BadRecord c_HouseError c_BadName c_BadLine c_BadLetter c_BadChange c_BadZone c_BadTurn c_BadRow k_KINDS : Addr} (T : Txt K mg c_BadRecord c_HouseError c_BadName c_BadLine c_BadLetter c_BadChange c_BadZone c_BadTurn c_BadRow k_KINDS) (F : KF K c_BadRecord c_HouseError c_BadName c_BadLine c_BadLetter c_BadChange c_BadZone c_BadTurn c_BadRow k_KINDS) (h_next : Has P wd K mg base 2 "_law_next" ps_next g_next) (r : Raw K mg "_law_name" st_name ps_name) : Has P wd K mg base 3 "_law_name" ps_name g_name :=
  has_ok r sc_name (fun ds S P EP h => by first | exact len0 ds S P EP h | exact len1 ds S P EP h | exact len2 ds S P EP h | exact len3 ds S P EP h | (unfold g_name at h; split at h <;> first | rfl | exact h.elim))
    fun f cdv A outer s H E B P0 EP ds S hr dx h => ⟨_, w_name T h_next hr dx, pure_name h⟩
theorem ok_plain {P : Program} {wd : World} {K : PySem.W.Frag} {mg : Str → Option Value} {base : Heap} {c_BadRecord c_HouseError c_BadName c_BadLine c_BadLetter c_BadChange c_BadZone c_BadTurn c_BadRow k_KINDS : Addr} (T : Txt K mg c_BadRecord c_HouseError c_BadName c_BadLine c_BadLetter c_BadChange c_BadZone c_BadTurn c_BadRow k_KINDS) (F : KF K c_BadRecord c_HouseError c_BadName c_BadLine c_BadLetter c_BadChange c_BadZone c_BadTurn c_BadRow k_KINDS) (h_name : Has P wd K mg base 3 "_law_name" ps_name g_name) (r : Raw K mg "_law_plain" st_plain ps_plain) : Has P wd K mg base 4 "_law_plain" ps_plain g_plain :=
  has_ok r sc_plain (fun ds S P EP h => by first | exact len0 ds S P EP h | exact len1 ds S P EP h | exact len2 ds S P EP h | exact len3 ds S P EP h | (unfold g_plain at h; split at h <;> first | rfl | exact h.elim))
    fun f cdv A outer s H E B P0 EP ds S hr dx h => ⟨_, w_plain T h_name hr dx, pure_plain h⟩
theorem ok_text {P : Program} {wd : World} {K : PySem.W.Frag} {mg : Str → Option Value} {base : Heap} {c_BadRecord c_HouseError c_BadName c_BadLine c_BadLetter c_BadChange c_BadZone c_BadTurn c_BadRow k_KINDS : Addr} (T : Txt K mg c_BadRecord c_HouseError c_BadName c_BadLine c_BadLetter c_BadChange c_BadZone c_BadTurn c_BadRow k_KINDS) (F : KF K c_BadRecord c_HouseError c_BadName c_BadLine c_BadLetter c_BadChange c_BadZone c_BadTurn c_BadRow k_KINDS)  (r : Raw K mg "_law_text" st_text ps_text) : Has P wd K mg base 1 "_law_text" ps_text g_text :=
  has_ok r sc_text (fun ds S P EP h => by first | exact len0 ds S P EP h | exact len1 ds S P EP h | exact len2 ds S P EP h | exact len3 ds S P EP h | (unfold g_text at h; split at h <;> first | rfl | exact h.elim))
    fun f cdv A outer s H E B P0 EP ds S hr dx h => ⟨_, w_text T  hr dx, pure_text h⟩
theorem ok_kinds {P : Program} {wd : World} {K : PySem.W.Frag} {mg : Str → Option Value} {base : Heap} {c_BadRecord c_HouseError c_BadName c_BadLine c_BadLetter c_BadChange c_BadZone c_BadTurn c_BadRow k_KINDS : Addr} (T : Txt K mg c_BadRecord c_HouseError c_BadName c_BadLine c_BadLetter c_BadChange c_BadZone c_BadTurn c_BadRow k_KINDS) (F : KF K c_BadRecord c_HouseError c_BadName c_BadLine c_BadLetter c_BadChange c_BadZone c_BadTurn c_BadRow k_KINDS)  (r : Raw K mg "_law_kinds" st_kinds ps_kinds) : Has P wd K mg base 1 "_law_kinds" ps_kinds g_kinds :=
  has_ok r sc_kinds (fun ds S P EP h => by first | exact len0 ds S P EP h | exact len1 ds S P EP h | exact len2 ds S P EP h | exact len3 ds S P EP h | (unfold g_kinds at h; split at h <;> first | rfl | exact h.elim))
    fun f cdv A outer s H E B P0 EP ds S hr dx h => ⟨_, w_kinds T  hr dx, pure_kinds h⟩
theorem ok_data {P : Program} {wd : World} {K : PySem.W.Frag} {mg : Str → Option Value} {base : Heap} {c_BadRecord c_HouseError c_BadName c_BadLine c_BadLetter c_BadChange c_BadZone c_BadTurn c_BadRow k_KINDS : Addr} (T : Txt K mg c_BadRecord c_HouseError c_BadName c_BadLine c_BadLetter c_BadChange c_BadZone c_BadTurn c_BadRow k_KINDS) (F : KF K c_BadRecord c_HouseError c_BadName c_BadLine c_BadLetter c_BadChange c_BadZone c_BadTurn c_BadRow k_KINDS) (h_next : Has P wd K mg base 2 "_law_next" ps_next g_next) (h_great : Has P wd K mg base 3 "_law_great" ps_great g_great) (h_text : Has P wd K mg base 1 "_law_text" ps_text g_text) (h_plain : Has P wd K mg base 4 "_law_plain" ps_plain g_plain) (h_kinds : Has P wd K mg base 1 "_law_kinds" ps_kinds g_kinds) (h_name : Has P wd K mg base 3 "_law_name" ps_name g_name) (r : Raw K mg "_law_data" st_data ps_data) : Has P wd K mg base 5 "_law_data" ps_data g_data :=
  has_ok r sc_data (fun ds S P EP h => by first | exact len0 ds S P EP h | exact len1 ds S P EP h | exact len2 ds S P EP h | exact len3 ds S P EP h | (unfold g_data at h; split at h <;> first | rfl | exact h.elim))
    fun f cdv A outer s H E B P0 EP ds S hr dx h => ⟨_, w_data T h_next h_great h_text h_plain h_kinds h_name hr dx, pure_data h⟩
theorem ok_record {P : Program} {wd : World} {K : PySem.W.Frag} {mg : Str → Option Value} {base : Heap} {c_BadRecord c_HouseError c_BadName c_BadLine c_BadLetter c_BadChange c_BadZone c_BadTurn c_BadRow k_KINDS : Addr} (T : Txt K mg c_BadRecord c_HouseError c_BadName c_BadLine c_BadLetter c_BadChange c_BadZone c_BadTurn c_BadRow k_KINDS) (F : KF K c_BadRecord c_HouseError c_BadName c_BadLine c_BadLetter c_BadChange c_BadZone c_BadTurn c_BadRow k_KINDS) (h_kinds : Has P wd K mg base 1 "_law_kinds" ps_kinds g_kinds) (h_next : Has P wd K mg base 2 "_law_next" ps_next g_next) (h_data : Has P wd K mg base 5 "_law_data" ps_data g_data) (h_great : Has P wd K mg base 3 "_law_great" ps_great g_great) (h_name : Has P wd K mg base 3 "_law_name" ps_name g_name) (r : Raw K mg "_law_record" st_record ps_record) : Has P wd K mg base 6 "_law_record" ps_record g_record :=
  has_ok r sc_record (fun ds S P EP h => by first | exact len0 ds S P EP h | exact len1 ds S P EP h | exact len2 ds S P EP h | exact len3 ds S P EP h | (unfold g_record at h; split at h <;> first | rfl | exact h.elim))
    fun f cdv A outer s H E B P0 EP ds S hr dx h => ⟨_, w_record T h_kinds h_next h_data h_great h_name hr dx, pure_record h⟩
theorem ok_before {P : Program} {wd : World} {K : PySem.W.Frag} {mg : Str → Option Value} {base : Heap} {c_BadRecord c_HouseError c_BadName c_BadLine c_BadLetter c_BadChange c_BadZone c_BadTurn c_BadRow k_KINDS : Addr} (T : Txt K mg c_BadRecord c_HouseError c_BadName c_BadLine c_BadLetter c_BadChange c_BadZone c_BadTurn c_BadRow k_KINDS) (F : KF K c_BadRecord c_HouseError c_BadName c_BadLine c_BadLetter c_BadChange c_BadZone c_BadTurn c_BadRow k_KINDS)  (r : Raw K mg "_law_before" st_before ps_before) : Has P wd K mg base 1 "_law_before" ps_before g_before :=
  has_ok r sc_before (fun ds S P EP h => by first | exact len0 ds S P EP h | exact len1 ds S P EP h | exact len2 ds S P EP h | exact len3 ds S P EP h | (unfold g_before at h; split at h <;> first | rfl | exact h.elim))
    fun f cdv A outer s H E B P0 EP ds S hr dx h => ⟨_, w_before T  hr dx, pure_before h⟩
theorem ok_among {P : Program} {wd : World} {K : PySem.W.Frag} {mg : Str → Option Value} {base : Heap} {c_BadRecord c_HouseError c_BadName c_BadLine c_BadLetter c_BadChange c_BadZone c_BadTurn c_BadRow k_KINDS : Addr} (T : Txt K mg c_BadRecord c_HouseError c_BadName c_BadLine c_BadLetter c_BadChange c_BadZone c_BadTurn c_BadRow k_KINDS) (F : KF K c_BadRecord c_HouseError c_BadName c_BadLine c_BadLetter c_BadChange c_BadZone c_BadTurn c_BadRow k_KINDS)  (r : Raw K mg "_law_among" st_among ps_among) : Has P wd K mg base 1 "_law_among" ps_among g_among :=
  has_ok r sc_among (fun ds S P EP h => by first | exact len0 ds S P EP h | exact len1 ds S P EP h | exact len2 ds S P EP h | exact len3 ds S P EP h | (unfold g_among at h; split at h <;> first | rfl | exact h.elim))
    fun f cdv A outer s H E B P0 EP ds S hr dx h => ⟨_, w_among T  hr dx, pure_among h⟩
theorem ok_is_name {P : Program} {wd : World} {K : PySem.W.Frag} {mg : Str → Option Value} {base : Heap} {c_BadRecord c_HouseError c_BadName c_BadLine c_BadLetter c_BadChange c_BadZone c_BadTurn c_BadRow k_KINDS : Addr} (T : Txt K mg c_BadRecord c_HouseError c_BadName c_BadLine c_BadLetter c_BadChange c_BadZone c_BadTurn c_BadRow k_KINDS) (F : KF K c_BadRecord c_HouseError c_BadName c_BadLine c_BadLetter c_BadChange c_BadZone c_BadTurn c_BadRow k_KINDS) (h_signs : Has P wd K mg base 1 "_law_signs" ps_signs g_signs) (r : Raw K mg "_law_is_name" st_is_name ps_is_name) : Has P wd K mg base 2 "_law_is_name" ps_is_name g_is_name :=
  has_ok r sc_is_name (fun ds S P EP h => by first | exact len0 ds S P EP h | exact len1 ds S P EP h | exact len2 ds S P EP h | exact len3 ds S P EP h | (unfold g_is_name at h; split at h <;> first | rfl | exact h.elim))
    fun f cdv A outer s H E B P0 EP ds S hr dx h => ⟨_, w_is_name T h_signs hr dx, pure_is_name h⟩
theorem ok_is_kind {P : Program} {wd : World} {K : PySem.W.Frag} {mg : Str → Option Value} {base : Heap} {c_BadRecord c_HouseError c_BadName c_BadLine c_BadLetter c_BadChange c_BadZone c_BadTurn c_BadRow k_KINDS : Addr} (T : Txt K mg c_BadRecord c_HouseError c_BadName c_BadLine c_BadLetter c_BadChange c_BadZone c_BadTurn c_BadRow k_KINDS) (F : KF K c_BadRecord c_HouseError c_BadName c_BadLine c_BadLetter c_BadChange c_BadZone c_BadTurn c_BadRow k_KINDS) (h_kinds : Has P wd K mg base 1 "_law_kinds" ps_kinds g_kinds) (r : Raw K mg "_law_is_kind" st_is_kind ps_is_kind) : Has P wd K mg base 2 "_law_is_kind" ps_is_kind g_is_kind :=
  has_ok r sc_is_kind (fun ds S P EP h => by first | exact len0 ds S P EP h | exact len1 ds S P EP h | exact len2 ds S P EP h | exact len3 ds S P EP h | (unfold g_is_kind at h; split at h <;> first | rfl | exact h.elim))
    fun f cdv A outer s H E B P0 EP ds S hr dx h => ⟨_, w_is_kind T h_kinds hr dx, pure_is_kind h⟩
theorem ok_is_data {P : Program} {wd : World} {K : PySem.W.Frag} {mg : Str → Option Value} {base : Heap} {c_BadRecord c_HouseError c_BadName c_BadLine c_BadLetter c_BadChange c_BadZone c_BadTurn c_BadRow k_KINDS : Addr} (T : Txt K mg c_BadRecord c_HouseError c_BadName c_BadLine c_BadLetter c_BadChange c_BadZone c_BadTurn c_BadRow k_KINDS) (F : KF K c_BadRecord c_HouseError c_BadName c_BadLine c_BadLetter c_BadChange c_BadZone c_BadTurn c_BadRow k_KINDS) (h_among : Has P wd K mg base 1 "_law_among" ps_among g_among) (h_is_name : Has P wd K mg base 2 "_law_is_name" ps_is_name g_is_name) (h_is_kind : Has P wd K mg base 2 "_law_is_kind" ps_is_kind g_is_kind) (r : Raw K mg "_law_is_data" st_is_data ps_is_data) : Has P wd K mg base 3 "_law_is_data" ps_is_data g_is_data :=
  has_ok r sc_is_data (fun ds S P EP h => by first | exact len0 ds S P EP h | exact len1 ds S P EP h | exact len2 ds S P EP h | exact len3 ds S P EP h | (unfold g_is_data at h; split at h <;> first | rfl | exact h.elim))
    fun f cdv A outer s H E B P0 EP ds S hr dx h => ⟨_, w_is_data T h_among h_is_name h_is_kind hr dx, pure_is_data h⟩
theorem ok_is_record {P : Program} {wd : World} {K : PySem.W.Frag} {mg : Str → Option Value} {base : Heap} {c_BadRecord c_HouseError c_BadName c_BadLine c_BadLetter c_BadChange c_BadZone c_BadTurn c_BadRow k_KINDS : Addr} (T : Txt K mg c_BadRecord c_HouseError c_BadName c_BadLine c_BadLetter c_BadChange c_BadZone c_BadTurn c_BadRow k_KINDS) (F : KF K c_BadRecord c_HouseError c_BadName c_BadLine c_BadLetter c_BadChange c_BadZone c_BadTurn c_BadRow k_KINDS) (h_is_name : Has P wd K mg base 2 "_law_is_name" ps_is_name g_is_name) (h_is_kind : Has P wd K mg base 2 "_law_is_kind" ps_is_kind g_is_kind) (h_among : Has P wd K mg base 1 "_law_among" ps_among g_among) (h_is_data : Has P wd K mg base 3 "_law_is_data" ps_is_data g_is_data) (r : Raw K mg "_law_is_record" st_is_record ps_is_record) : Has P wd K mg base 4 "_law_is_record" ps_is_record g_is_record :=
  has_ok r sc_is_record (fun ds S P EP h => by first | exact len0 ds S P EP h | exact len1 ds S P EP h | exact len2 ds S P EP h | exact len3 ds S P EP h | (unfold g_is_record at h; split at h <;> first | rfl | exact h.elim))
    fun f cdv A outer s H E B P0 EP ds S hr dx h => ⟨_, w_is_record T h_is_name h_is_kind h_among h_is_data hr dx, pure_is_record h⟩
theorem ok_odd {P : Program} {wd : World} {K : PySem.W.Frag} {mg : Str → Option Value} {base : Heap} {c_BadRecord c_HouseError c_BadName c_BadLine c_BadLetter c_BadChange c_BadZone c_BadTurn c_BadRow k_KINDS : Addr} (T : Txt K mg c_BadRecord c_HouseError c_BadName c_BadLine c_BadLetter c_BadChange c_BadZone c_BadTurn c_BadRow k_KINDS) (F : KF K c_BadRecord c_HouseError c_BadName c_BadLine c_BadLetter c_BadChange c_BadZone c_BadTurn c_BadRow k_KINDS) (h_among : Has P wd K mg base 1 "_law_among" ps_among g_among) (r : Raw K mg "_law_odd" st_odd ps_odd) : Has P wd K mg base 2 "_law_odd" ps_odd g_odd :=
  has_ok r sc_odd (fun ds S P EP h => by first | exact len0 ds S P EP h | exact len1 ds S P EP h | exact len2 ds S P EP h | exact len3 ds S P EP h | (unfold g_odd at h; split at h <;> first | rfl | exact h.elim))
    fun f cdv A outer s H E B P0 EP ds S hr dx h => ⟨_, w_odd T h_among hr dx, pure_odd h⟩
theorem ok_spoilt_z {P : Program} {wd : World} {K : PySem.W.Frag} {mg : Str → Option Value} {base : Heap} {j : Nat} (r : Raw K mg "_law_spoilt" st_spoilt ps_spoilt) : Has P wd K mg base (j + 1) "_law_spoilt" ps_spoilt (fun _ _ _ _ => False) :=
  has_ok r sc_spoilt (fun _ _ _ _ h => h.elim) fun _ _ _ _ _ _ _ _ _ _ _ _ _ _ h => h.elim
theorem ok_spoilt_0 {P : Program} {wd : World} {K : PySem.W.Frag} {mg : Str → Option Value} {base : Heap} {c_BadRecord c_HouseError c_BadName c_BadLine c_BadLetter c_BadChange c_BadZone c_BadTurn c_BadRow k_KINDS : Addr} (T : Txt K mg c_BadRecord c_HouseError c_BadName c_BadLine c_BadLetter c_BadChange c_BadZone c_BadTurn c_BadRow k_KINDS) (F : KF K c_BadRecord c_HouseError c_BadName c_BadLine c_BadLetter c_BadChange c_BadZone c_BadTurn c_BadRow k_KINDS) (h_next : Has P wd K mg base 2 "_law_next" ps_next g_next) (h_odd : Has P wd K mg base 2 "_law_odd" ps_odd g_odd) (r : Raw K mg "_law_spoilt" st_spoilt ps_spoilt) : Has P wd K mg base 3 "_law_spoilt" ps_spoilt (g_spoilt 0) :=
  has_ok r sc_spoilt (fun ds S P EP h => by (unfold g_spoilt at h; split at h <;> first | rfl | exact h.elim))
    fun f cdv A outer s H E B P0 EP ds S hr dx h => ⟨_, w_spoilt T h_next h_odd (ok_spoilt_z (j := 1) r) hr hr dx, pure_spoilt 0 h⟩
theorem ok_spoilt_1 {P : Program} {wd : World} {K : PySem.W.Frag} {mg : Str → Option Value} {base : Heap} {c_BadRecord c_HouseError c_BadName c_BadLine c_BadLetter c_BadChange c_BadZone c_BadTurn c_BadRow k_KINDS : Addr} (T : Txt K mg c_BadRecord c_HouseError c_BadName c_BadLine c_BadLetter c_BadChange c_BadZone c_BadTurn c_BadRow k_KINDS) (F : KF K c_BadRecord c_HouseError c_BadName c_BadLine c_BadLetter c_BadChange c_BadZone c_BadTurn c_BadRow k_KINDS) (h_next : Has P wd K mg base 2 "_law_next" ps_next g_next) (h_odd : Has P wd K mg base 2 "_law_odd" ps_odd g_odd) (r : Raw K mg "_law_spoilt" st_spoilt ps_spoilt) : Has P wd K mg base 4 "_law_spoilt" ps_spoilt (g_spoilt 1) :=
  has_ok r sc_spoilt (fun ds S P EP h => by (unfold g_spoilt at h; split at h <;> first | rfl | exact h.elim))
    fun f cdv A outer s H E B P0 EP ds S hr dx h => ⟨_, w_spoilt T h_next h_odd (ok_spoilt_0 T F h_next h_odd r) (hr.mono (by decide)) hr dx, pure_spoilt 1 h⟩
theorem ok_spoilt_2 {P : Program} {wd : World} {K : PySem.W.Frag} {mg : Str → Option Value} {base : Heap} {c_BadRecord c_HouseError c_BadName c_BadLine c_BadLetter c_BadChange c_BadZone c_BadTurn c_BadRow k_KINDS : Addr} (T : Txt K mg c_BadRecord c_HouseError c_BadName c_BadLine c_BadLetter c_BadChange c_BadZone c_BadTurn c_BadRow k_KINDS) (F : KF K c_BadRecord c_HouseError c_BadName c_BadLine c_BadLetter c_BadChange c_BadZone c_BadTurn c_BadRow k_KINDS) (h_next : Has P wd K mg base 2 "_law_next" ps_next g_next) (h_odd : Has P wd K mg base 2 "_law_odd" ps_odd g_odd) (r : Raw K mg "_law_spoilt" st_spoilt ps_spoilt) : Has P wd K mg base 5 "_law_spoilt" ps_spoilt (g_spoilt 2) :=
  has_ok r sc_spoilt (fun ds S P EP h => by (unfold g_spoilt at h; split at h <;> first | rfl | exact h.elim))
    fun f cdv A outer s H E B P0 EP ds S hr dx h => ⟨_, w_spoilt T h_next h_odd (ok_spoilt_1 T F h_next h_odd r) (hr.mono (by decide)) hr dx, pure_spoilt 2 h⟩
theorem ok_spoilt_3 {P : Program} {wd : World} {K : PySem.W.Frag} {mg : Str → Option Value} {base : Heap} {c_BadRecord c_HouseError c_BadName c_BadLine c_BadLetter c_BadChange c_BadZone c_BadTurn c_BadRow k_KINDS : Addr} (T : Txt K mg c_BadRecord c_HouseError c_BadName c_BadLine c_BadLetter c_BadChange c_BadZone c_BadTurn c_BadRow k_KINDS) (F : KF K c_BadRecord c_HouseError c_BadName c_BadLine c_BadLetter c_BadChange c_BadZone c_BadTurn c_BadRow k_KINDS) (h_next : Has P wd K mg base 2 "_law_next" ps_next g_next) (h_odd : Has P wd K mg base 2 "_law_odd" ps_odd g_odd) (r : Raw K mg "_law_spoilt" st_spoilt ps_spoilt) : Has P wd K mg base 6 "_law_spoilt" ps_spoilt (g_spoilt 3) :=
  has_ok r sc_spoilt (fun ds S P EP h => by (unfold g_spoilt at h; split at h <;> first | rfl | exact h.elim))
    fun f cdv A outer s H E B P0 EP ds S hr dx h => ⟨_, w_spoilt T h_next h_odd (ok_spoilt_2 T F h_next h_odd r) (hr.mono (by decide)) hr dx, pure_spoilt 3 h⟩
theorem ok_spoilt {P : Program} {wd : World} {K : PySem.W.Frag} {mg : Str → Option Value} {base : Heap} {c_BadRecord c_HouseError c_BadName c_BadLine c_BadLetter c_BadChange c_BadZone c_BadTurn c_BadRow k_KINDS : Addr} (T : Txt K mg c_BadRecord c_HouseError c_BadName c_BadLine c_BadLetter c_BadChange c_BadZone c_BadTurn c_BadRow k_KINDS) (F : KF K c_BadRecord c_HouseError c_BadName c_BadLine c_BadLetter c_BadChange c_BadZone c_BadTurn c_BadRow k_KINDS) (h_next : Has P wd K mg base 2 "_law_next" ps_next g_next) (h_odd : Has P wd K mg base 2 "_law_odd" ps_odd g_odd) (r : Raw K mg "_law_spoilt" st_spoilt ps_spoilt) : Has P wd K mg base 6 "_law_spoilt" ps_spoilt (g_spoilt 3) := ok_spoilt_3 T F h_next h_odd r
theorem ok_less {P : Program} {wd : World} {K : PySem.W.Frag} {mg : Str → Option Value} {base : Heap} {c_BadRecord c_HouseError c_BadName c_BadLine c_BadLetter c_BadChange c_BadZone c_BadTurn c_BadRow k_KINDS : Addr} (T : Txt K mg c_BadRecord c_HouseError c_BadName c_BadLine c_BadLetter c_BadChange c_BadZone c_BadTurn c_BadRow k_KINDS) (F : KF K c_BadRecord c_HouseError c_BadName c_BadLine c_BadLetter c_BadChange c_BadZone c_BadTurn c_BadRow k_KINDS) (h_before : Has P wd K mg base 1 "_law_before" ps_before g_before) (r : Raw K mg "_law_less" st_less ps_less) : Has P wd K mg base 2 "_law_less" ps_less g_less :=
  has_ok r sc_less (fun ds S P EP h => by first | exact len0 ds S P EP h | exact len1 ds S P EP h | exact len2 ds S P EP h | exact len3 ds S P EP h | (unfold g_less at h; split at h <;> first | rfl | exact h.elim))
    fun f cdv A outer s H E B P0 EP ds S hr dx h => ⟨_, w_less T h_before hr dx, pure_less h⟩
theorem ok_ahead {P : Program} {wd : World} {K : PySem.W.Frag} {mg : Str → Option Value} {base : Heap} {c_BadRecord c_HouseError c_BadName c_BadLine c_BadLetter c_BadChange c_BadZone c_BadTurn c_BadRow k_KINDS : Addr} (T : Txt K mg c_BadRecord c_HouseError c_BadName c_BadLine c_BadLetter c_BadChange c_BadZone c_BadTurn c_BadRow k_KINDS) (F : KF K c_BadRecord c_HouseError c_BadName c_BadLine c_BadLetter c_BadChange c_BadZone c_BadTurn c_BadRow k_KINDS) (h_before : Has P wd K mg base 1 "_law_before" ps_before g_before) (h_less : Has P wd K mg base 2 "_law_less" ps_less g_less) (r : Raw K mg "_law_ahead" st_ahead ps_ahead) : Has P wd K mg base 3 "_law_ahead" ps_ahead g_ahead :=
  has_ok r sc_ahead (fun ds S P EP h => by first | exact len0 ds S P EP h | exact len1 ds S P EP h | exact len2 ds S P EP h | exact len3 ds S P EP h | (unfold g_ahead at h; split at h <;> first | rfl | exact h.elim))
    fun f cdv A outer s H E B P0 EP ds S hr dx h => ⟨_, w_ahead T h_before h_less hr dx, pure_ahead h⟩
theorem ok_sorted {P : Program} {wd : World} {K : PySem.W.Frag} {mg : Str → Option Value} {base : Heap} {c_BadRecord c_HouseError c_BadName c_BadLine c_BadLetter c_BadChange c_BadZone c_BadTurn c_BadRow k_KINDS : Addr} (T : Txt K mg c_BadRecord c_HouseError c_BadName c_BadLine c_BadLetter c_BadChange c_BadZone c_BadTurn c_BadRow k_KINDS) (F : KF K c_BadRecord c_HouseError c_BadName c_BadLine c_BadLetter c_BadChange c_BadZone c_BadTurn c_BadRow k_KINDS) (h_ahead : Has P wd K mg base 3 "_law_ahead" ps_ahead g_ahead) (r : Raw K mg "_law_sorted" st_sorted ps_sorted) : Has P wd K mg base 4 "_law_sorted" ps_sorted g_sorted :=
  has_ok r sc_sorted (fun ds S P EP h => by first | exact len0 ds S P EP h | exact len1 ds S P EP h | exact len2 ds S P EP h | exact len3 ds S P EP h | (unfold g_sorted at h; split at h <;> first | rfl | exact h.elim))
    fun f cdv A outer s H E B P0 EP ds S hr dx h => ⟨_, w_sorted T h_ahead hr dx, pure_sorted h⟩
theorem ok_some {P : Program} {wd : World} {K : PySem.W.Frag} {mg : Str → Option Value} {base : Heap} {c_BadRecord c_HouseError c_BadName c_BadLine c_BadLetter c_BadChange c_BadZone c_BadTurn c_BadRow k_KINDS : Addr} (T : Txt K mg c_BadRecord c_HouseError c_BadName c_BadLine c_BadLetter c_BadChange c_BadZone c_BadTurn c_BadRow k_KINDS) (F : KF K c_BadRecord c_HouseError c_BadName c_BadLine c_BadLetter c_BadChange c_BadZone c_BadTurn c_BadRow k_KINDS) (h_next : Has P wd K mg base 2 "_law_next" ps_next g_next) (h_record : Has P wd K mg base 6 "_law_record" ps_record g_record) (h_data : Has P wd K mg base 5 "_law_data" ps_data g_data) (r : Raw K mg "_law_some" st_some ps_some) : Has P wd K mg base 7 "_law_some" ps_some g_some :=
  has_ok r sc_some (fun ds S P EP h => by first | exact len0 ds S P EP h | exact len1 ds S P EP h | exact len2 ds S P EP h | exact len3 ds S P EP h | (unfold g_some at h; split at h <;> first | rfl | exact h.elim))
    fun f cdv A outer s H E B P0 EP ds S hr dx h => ⟨_, w_some T h_next h_record h_data hr dx, pure_some h⟩
theorem ok_word {P : Program} {wd : World} {K : PySem.W.Frag} {mg : Str → Option Value} {base : Heap} {c_BadRecord c_HouseError c_BadName c_BadLine c_BadLetter c_BadChange c_BadZone c_BadTurn c_BadRow k_KINDS : Addr} (T : Txt K mg c_BadRecord c_HouseError c_BadName c_BadLine c_BadLetter c_BadChange c_BadZone c_BadTurn c_BadRow k_KINDS) (F : KF K c_BadRecord c_HouseError c_BadName c_BadLine c_BadLetter c_BadChange c_BadZone c_BadTurn c_BadRow k_KINDS) (h_p_ordered : Has P wd K mg base 8 "ordered" ps_p_ordered (g_p_ordered c_BadRecord)) (r : Raw K mg "_law_word" st_word ps_word) : Has P wd K mg base 9 "_law_word" ps_word g_word :=
  has_ok r sc_word (fun ds S P EP h => by first | exact len0 ds S P EP h | exact len1 ds S P EP h | exact len2 ds S P EP h | exact len3 ds S P EP h | (unfold g_word at h; split at h <;> first | rfl | exact h.elim))
    fun f cdv A outer s H E B P0 EP ds S hr dx h => ⟨_, w_word T h_p_ordered hr dx, pure_word F h⟩
theorem ok_law {P : Program} {wd : World} {K : PySem.W.Frag} {mg : Str → Option Value} {base : Heap} {c_BadRecord c_HouseError c_BadName c_BadLine c_BadLetter c_BadChange c_BadZone c_BadTurn c_BadRow k_KINDS : Addr} (T : Txt K mg c_BadRecord c_HouseError c_BadName c_BadLine c_BadLetter c_BadChange c_BadZone c_BadTurn c_BadRow k_KINDS) (F : KF K c_BadRecord c_HouseError c_BadName c_BadLine c_BadLetter c_BadChange c_BadZone c_BadTurn c_BadRow k_KINDS) (h_labels : Has P wd K mg base 3 "_law_labels" ps_labels g_labels) (h_kinds : Has P wd K mg base 1 "_law_kinds" ps_kinds g_kinds) (h_some : Has P wd K mg base 7 "_law_some" ps_some g_some) (h_sorted : Has P wd K mg base 4 "_law_sorted" ps_sorted g_sorted) (h_p_ordered : Has P wd K mg base 8 "ordered" ps_p_ordered (g_p_ordered c_BadRecord)) (h_record : Has P wd K mg base 6 "_law_record" ps_record g_record) (h_spoilt : Has P wd K mg base 6 "_law_spoilt" ps_spoilt (g_spoilt 3)) (h_p_is_record : Has P wd K mg base 6 "is_record" ps_p_is_record g_p_is_record) (h_is_record : Has P wd K mg base 4 "_law_is_record" ps_is_record g_is_record) (h_next : Has P wd K mg base 2 "_law_next" ps_next g_next) (h_word : Has P wd K mg base 9 "_law_word" ps_word g_word) {f : Addr} {fd : FuncData} (r : Fun K "law" "law" st_law f fd) : FnOk P wd K mg base (L2.CX P wd) 10 f fd ps_law (spS K g_law) :=
  fun_ok r sc_law (fun ds S P EP h => by first | exact len0 ds S P EP h | exact len1 ds S P EP h | exact len2 ds S P EP h | exact len3 ds S P EP h | (unfold g_law at h; split at h <;> first | rfl | exact h.elim))
    fun cdv A outer s H E B P0 EP ds S hr dx h => ⟨_, w_law T h_labels h_kinds h_some h_sorted h_p_ordered h_record h_spoilt h_p_is_record h_is_record h_next h_word hr dx, pure_law F h⟩
theorem all_ok {P : Program} {wd : World} {K : PySem.W.Frag} {mg : Str → Option Value} {base : Heap} {c_BadRecord c_HouseError c_BadName c_BadLine c_BadLetter c_BadChange c_BadZone c_BadTurn c_BadRow k_KINDS : Addr} (T : Txt K mg c_BadRecord c_HouseError c_BadName c_BadLine c_BadLetter c_BadChange c_BadZone c_BadTurn c_BadRow k_KINDS) (F : KF K c_BadRecord c_HouseError c_BadName c_BadLine c_BadLetter c_BadChange c_BadZone c_BadTurn c_BadRow k_KINDS) (r_p_is_plain : Raw K mg "is_plain" st_p_is_plain ps_p_is_plain) (r_p_is_label : Raw K mg "is_label" st_p_is_label ps_p_is_label) (r_p_is_name : Raw K mg "is_name" st_p_is_name ps_p_is_name) (r_p_is_starless : Raw K mg "is_starless" st_p_is_starless ps_p_is_starless) (r_p_name_rank : Raw K mg "name_rank" st_p_name_rank ps_p_name_rank) (r_p_is_among : Raw K mg "is_among" st_p_is_among ps_p_is_among) (r_p_is_kind : Raw K mg "is_kind" st_p_is_kind ps_p_is_kind) (r_p_is_live : Raw K mg "is_live" st_p_is_live ps_p_is_live) (r_p_is_words : Raw K mg "is_words" st_p_is_words ps_p_is_words) (r_p_is_top : Raw K mg "is_top" st_p_is_top ps_p_is_top) (r_p_is_seal : Raw K mg "is_seal" st_p_is_seal ps_p_is_seal) (r_p_is_gap : Raw K mg "is_gap" st_p_is_gap ps_p_is_gap) (r_p_is_data : Raw K mg "is_data" st_p_is_data ps_p_is_data) (r_p_is_record : Raw K mg "is_record" st_p_is_record ps_p_is_record) (r_p_data_rank : Raw K mg "data_rank" st_p_data_rank ps_p_data_rank) (r_p_record_rank : Raw K mg "record_rank" st_p_record_rank ps_p_record_rank) (r_p_are_records : Raw K mg "are_records" st_p_are_records ps_p_are_records) (r_p_in_order : Raw K mg "in_order" st_p_in_order ps_p_in_order) (r_p_ordered : Raw K mg "ordered" st_p_ordered ps_p_ordered) (r_cell_at : Raw K mg "_law_cell_at" st_cell_at ps_cell_at) (r_next : Raw K mg "_law_next" st_next ps_next) (r_great : Raw K mg "_law_great" st_great ps_great) (r_signs : Raw K mg "_law_signs" st_signs ps_signs) (r_label : Raw K mg "_law_label" st_label ps_label) (r_labels : Raw K mg "_law_labels" st_labels ps_labels) (r_name : Raw K mg "_law_name" st_name ps_name) (r_plain : Raw K mg "_law_plain" st_plain ps_plain) (r_text : Raw K mg "_law_text" st_text ps_text) (r_kinds : Raw K mg "_law_kinds" st_kinds ps_kinds) (r_data : Raw K mg "_law_data" st_data ps_data) (r_record : Raw K mg "_law_record" st_record ps_record) (r_before : Raw K mg "_law_before" st_before ps_before) (r_among : Raw K mg "_law_among" st_among ps_among) (r_is_name : Raw K mg "_law_is_name" st_is_name ps_is_name) (r_is_kind : Raw K mg "_law_is_kind" st_is_kind ps_is_kind) (r_is_data : Raw K mg "_law_is_data" st_is_data ps_is_data) (r_is_record : Raw K mg "_law_is_record" st_is_record ps_is_record) (r_odd : Raw K mg "_law_odd" st_odd ps_odd) (r_spoilt : Raw K mg "_law_spoilt" st_spoilt ps_spoilt) (r_less : Raw K mg "_law_less" st_less ps_less) (r_ahead : Raw K mg "_law_ahead" st_ahead ps_ahead) (r_sorted : Raw K mg "_law_sorted" st_sorted ps_sorted) (r_some : Raw K mg "_law_some" st_some ps_some) (r_word : Raw K mg "_law_word" st_word ps_word) {f : Addr} {fd : FuncData} (r_law : Fun K "law" "law" st_law f fd) : FnOk P wd K mg base (L2.CX P wd) 10 f fd ps_law (spS K g_law) := by
  have h_p_is_plain := ok_p_is_plain (P := P) (wd := wd) (base := base) T F  r_p_is_plain
  have h_p_name_rank := ok_p_name_rank (P := P) (wd := wd) (base := base) T F  r_p_name_rank
  have h_p_is_among := ok_p_is_among (P := P) (wd := wd) (base := base) T F  r_p_is_among
  have h_p_is_kind := ok_p_is_kind (P := P) (wd := wd) (base := base) T F  r_p_is_kind
  have h_p_is_words := ok_p_is_words (P := P) (wd := wd) (base := base) T F  r_p_is_words
  have h_cell_at := ok_cell_at (P := P) (wd := wd) (base := base) T F  r_cell_at
  have h_signs := ok_signs (P := P) (wd := wd) (base := base) T F  r_signs
  have h_text := ok_text (P := P) (wd := wd) (base := base) T F  r_text
  have h_kinds := ok_kinds (P := P) (wd := wd) (base := base) T F  r_kinds
  have h_before := ok_before (P := P) (wd := wd) (base := base) T F  r_before
  have h_among := ok_among (P := P) (wd := wd) (base := base) T F  r_among
  have h_p_is_label := ok_p_is_label (P := P) (wd := wd) (base := base) T F h_p_is_plain r_p_is_label
  have h_p_is_live := ok_p_is_live (P := P) (wd := wd) (base := base) T F h_p_is_among r_p_is_live
  have h_p_is_seal := ok_p_is_seal (P := P) (wd := wd) (base := base) T F h_p_is_kind h_p_is_among r_p_is_seal
  have h_p_data_rank := ok_p_data_rank (P := P) (wd := wd) (base := base) T F h_p_name_rank r_p_data_rank
  have h_next := ok_next (P := P) (wd := wd) (base := base) T F h_cell_at r_next
  have h_label := ok_label (P := P) (wd := wd) (base := base) T F h_signs r_label
  have h_is_name := ok_is_name (P := P) (wd := wd) (base := base) T F h_signs r_is_name
  have h_is_kind := ok_is_kind (P := P) (wd := wd) (base := base) T F h_kinds r_is_kind
  have h_odd := ok_odd (P := P) (wd := wd) (base := base) T F h_among r_odd
  have h_less := ok_less (P := P) (wd := wd) (base := base) T F h_before r_less
  have h_p_is_name := ok_p_is_name (P := P) (wd := wd) (base := base) T F h_p_is_label h_p_is_plain r_p_is_name
  have h_p_is_top := ok_p_is_top (P := P) (wd := wd) (base := base) T F h_p_is_among h_p_is_live r_p_is_top
  have h_p_record_rank := ok_p_record_rank (P := P) (wd := wd) (base := base) T F h_p_data_rank h_p_name_rank r_p_record_rank
  have h_great := ok_great (P := P) (wd := wd) (base := base) T F h_next r_great
  have h_labels := ok_labels (P := P) (wd := wd) (base := base) T F h_label h_next h_signs r_labels
  have h_name := ok_name (P := P) (wd := wd) (base := base) T F h_next r_name
  have h_is_data := ok_is_data (P := P) (wd := wd) (base := base) T F h_among h_is_name h_is_kind r_is_data
  have h_ahead := ok_ahead (P := P) (wd := wd) (base := base) T F h_before h_less r_ahead
  have h_p_is_starless := ok_p_is_starless (P := P) (wd := wd) (base := base) T F h_p_is_name r_p_is_starless
  have h_p_is_gap := ok_p_is_gap (P := P) (wd := wd) (base := base) T F h_p_is_name h_p_is_kind r_p_is_gap
  have h_plain := ok_plain (P := P) (wd := wd) (base := base) T F h_name r_plain
  have h_is_record := ok_is_record (P := P) (wd := wd) (base := base) T F h_is_name h_is_kind h_among h_is_data r_is_record
  have h_sorted := ok_sorted (P := P) (wd := wd) (base := base) T F h_ahead r_sorted
  have h_p_is_data := ok_p_is_data (P := P) (wd := wd) (base := base) T F h_p_is_among h_p_is_words h_p_is_starless h_p_is_top h_p_is_seal h_p_is_gap r_p_is_data
  have h_p_in_order := ok_p_in_order (P := P) (wd := wd) (base := base) T F h_p_record_rank r_p_in_order
  have h_data := ok_data (P := P) (wd := wd) (base := base) T F h_next h_great h_text h_plain h_kinds h_name r_data
  have h_p_is_record := ok_p_is_record (P := P) (wd := wd) (base := base) T F h_p_is_name h_p_is_kind h_p_is_live h_p_is_data r_p_is_record
  have h_record := ok_record (P := P) (wd := wd) (base := base) T F h_kinds h_next h_data h_great h_name r_record
  have h_spoilt := ok_spoilt (P := P) (wd := wd) (base := base) T F h_next h_odd r_spoilt
  have h_p_are_records := ok_p_are_records (P := P) (wd := wd) (base := base) T F h_p_is_record r_p_are_records
  have h_some := ok_some (P := P) (wd := wd) (base := base) T F h_next h_record h_data r_some
  have h_p_ordered := ok_p_ordered (P := P) (wd := wd) (base := base) T F h_p_are_records h_p_in_order r_p_ordered
  have h_word := ok_word (P := P) (wd := wd) (base := base) T F h_p_ordered r_word
  have h_law := ok_law (P := P) (wd := wd) (base := base) T F h_labels h_kinds h_some h_sorted h_p_ordered h_record h_spoilt h_p_is_record h_is_record h_next h_word r_law
  exact h_law
end DL.K03
namespace DL.K03
open PySem PySem.Spec PyProof.Rows L2
theorem all_mk {l : PySem.W.OpenLaw} {w : World} {K : PySem.W.Frag} {h : Heap} {mg : Str → Option Value} {fa c_BadRecord c_HouseError c_BadName c_BadLine c_BadLetter c_BadChange c_BadZone c_BadTurn c_BadRow k_KINDS : Addr} (X : K.In h) (G : h.Ns mainGlobals mg) (hfa : mg "law" = some (.ref fa))
    {a_p_is_plain : Addr} {oc_p_is_plain kV_p_is_plain dc_p_is_plain pm_p_is_plain cd_p_is_plain ct_p_is_plain : Value} {od_p_is_plain an_p_is_plain : Option Addr} {sl_p_is_plain : Array (Option Value)}
    {a_p_is_label : Addr} {oc_p_is_label kV_p_is_label dc_p_is_label pm_p_is_label cd_p_is_label ct_p_is_label : Value} {od_p_is_label an_p_is_label : Option Addr} {sl_p_is_label : Array (Option Value)}
    {a_p_is_name : Addr} {oc_p_is_name kV_p_is_name dc_p_is_name pm_p_is_name cd_p_is_name ct_p_is_name : Value} {od_p_is_name an_p_is_name : Option Addr} {sl_p_is_name : Array (Option Value)}
    {a_p_is_starless : Addr} {oc_p_is_starless kV_p_is_starless dc_p_is_starless pm_p_is_starless cd_p_is_starless ct_p_is_starless : Value} {od_p_is_starless an_p_is_starless : Option Addr} {sl_p_is_starless : Array (Option Value)}
    {a_p_name_rank : Addr} {oc_p_name_rank kV_p_name_rank dc_p_name_rank pm_p_name_rank cd_p_name_rank ct_p_name_rank : Value} {od_p_name_rank an_p_name_rank : Option Addr} {sl_p_name_rank : Array (Option Value)}
    {a_p_is_among : Addr} {oc_p_is_among kV_p_is_among dc_p_is_among pm_p_is_among cd_p_is_among ct_p_is_among : Value} {od_p_is_among an_p_is_among : Option Addr} {sl_p_is_among : Array (Option Value)}
    {a_p_is_kind : Addr} {oc_p_is_kind kV_p_is_kind dc_p_is_kind pm_p_is_kind cd_p_is_kind ct_p_is_kind : Value} {od_p_is_kind an_p_is_kind : Option Addr} {sl_p_is_kind : Array (Option Value)}
    {a_p_is_live : Addr} {oc_p_is_live kV_p_is_live dc_p_is_live pm_p_is_live cd_p_is_live ct_p_is_live : Value} {od_p_is_live an_p_is_live : Option Addr} {sl_p_is_live : Array (Option Value)}
    {a_p_is_words : Addr} {oc_p_is_words kV_p_is_words dc_p_is_words pm_p_is_words cd_p_is_words ct_p_is_words : Value} {od_p_is_words an_p_is_words : Option Addr} {sl_p_is_words : Array (Option Value)}
    {a_p_is_top : Addr} {oc_p_is_top kV_p_is_top dc_p_is_top pm_p_is_top cd_p_is_top ct_p_is_top : Value} {od_p_is_top an_p_is_top : Option Addr} {sl_p_is_top : Array (Option Value)}
    {a_p_is_seal : Addr} {oc_p_is_seal kV_p_is_seal dc_p_is_seal pm_p_is_seal cd_p_is_seal ct_p_is_seal : Value} {od_p_is_seal an_p_is_seal : Option Addr} {sl_p_is_seal : Array (Option Value)}
    {a_p_is_gap : Addr} {oc_p_is_gap kV_p_is_gap dc_p_is_gap pm_p_is_gap cd_p_is_gap ct_p_is_gap : Value} {od_p_is_gap an_p_is_gap : Option Addr} {sl_p_is_gap : Array (Option Value)}
    {a_p_is_data : Addr} {oc_p_is_data kV_p_is_data dc_p_is_data pm_p_is_data cd_p_is_data ct_p_is_data : Value} {od_p_is_data an_p_is_data : Option Addr} {sl_p_is_data : Array (Option Value)}
    {a_p_is_record : Addr} {oc_p_is_record kV_p_is_record dc_p_is_record pm_p_is_record cd_p_is_record ct_p_is_record : Value} {od_p_is_record an_p_is_record : Option Addr} {sl_p_is_record : Array (Option Value)}
    {a_p_data_rank : Addr} {oc_p_data_rank kV_p_data_rank dc_p_data_rank pm_p_data_rank cd_p_data_rank ct_p_data_rank : Value} {od_p_data_rank an_p_data_rank : Option Addr} {sl_p_data_rank : Array (Option Value)}
    {a_p_record_rank : Addr} {oc_p_record_rank kV_p_record_rank dc_p_record_rank pm_p_record_rank cd_p_record_rank ct_p_record_rank : Value} {od_p_record_rank an_p_record_rank : Option Addr} {sl_p_record_rank : Array (Option Value)}
    {a_p_are_records : Addr} {oc_p_are_records kV_p_are_records dc_p_are_records pm_p_are_records cd_p_are_records ct_p_are_records : Value} {od_p_are_records an_p_are_records : Option Addr} {sl_p_are_records : Array (Option Value)}
    {a_p_in_order : Addr} {oc_p_in_order kV_p_in_order dc_p_in_order pm_p_in_order cd_p_in_order ct_p_in_order : Value} {od_p_in_order an_p_in_order : Option Addr} {sl_p_in_order : Array (Option Value)}
    {a_p_ordered : Addr} {oc_p_ordered kV_p_ordered dc_p_ordered pm_p_ordered cd_p_ordered ct_p_ordered : Value} {od_p_ordered an_p_ordered : Option Addr} {sl_p_ordered : Array (Option Value)}
    {a_cell_at : Addr} {oc_cell_at kV_cell_at dc_cell_at pm_cell_at cd_cell_at ct_cell_at : Value} {od_cell_at an_cell_at : Option Addr} {sl_cell_at : Array (Option Value)}
    {a_next : Addr} {oc_next kV_next dc_next pm_next cd_next ct_next : Value} {od_next an_next : Option Addr} {sl_next : Array (Option Value)}
    {a_great : Addr} {oc_great kV_great dc_great pm_great cd_great ct_great : Value} {od_great an_great : Option Addr} {sl_great : Array (Option Value)}
    {a_signs : Addr} {oc_signs kV_signs dc_signs pm_signs cd_signs ct_signs : Value} {od_signs an_signs : Option Addr} {sl_signs : Array (Option Value)}
    {a_label : Addr} {oc_label kV_label dc_label pm_label cd_label ct_label : Value} {od_label an_label : Option Addr} {sl_label : Array (Option Value)}
    {a_labels : Addr} {oc_labels kV_labels dc_labels pm_labels cd_labels ct_labels : Value} {od_labels an_labels : Option Addr} {sl_labels : Array (Option Value)}
    {a_name : Addr} {oc_name kV_name dc_name pm_name cd_name ct_name : Value} {od_name an_name : Option Addr} {sl_name : Array (Option Value)}
    {a_plain : Addr} {oc_plain kV_plain dc_plain pm_plain cd_plain ct_plain : Value} {od_plain an_plain : Option Addr} {sl_plain : Array (Option Value)}
    {a_text : Addr} {oc_text kV_text dc_text pm_text cd_text ct_text : Value} {od_text an_text : Option Addr} {sl_text : Array (Option Value)}
    {a_kinds : Addr} {oc_kinds kV_kinds dc_kinds pm_kinds cd_kinds ct_kinds : Value} {od_kinds an_kinds : Option Addr} {sl_kinds : Array (Option Value)}
    {a_data : Addr} {oc_data kV_data dc_data pm_data cd_data ct_data : Value} {od_data an_data : Option Addr} {sl_data : Array (Option Value)}
    {a_record : Addr} {oc_record kV_record dc_record pm_record cd_record ct_record : Value} {od_record an_record : Option Addr} {sl_record : Array (Option Value)}
    {a_before : Addr} {oc_before kV_before dc_before pm_before cd_before ct_before : Value} {od_before an_before : Option Addr} {sl_before : Array (Option Value)}
    {a_among : Addr} {oc_among kV_among dc_among pm_among cd_among ct_among : Value} {od_among an_among : Option Addr} {sl_among : Array (Option Value)}
    {a_is_name : Addr} {oc_is_name kV_is_name dc_is_name pm_is_name cd_is_name ct_is_name : Value} {od_is_name an_is_name : Option Addr} {sl_is_name : Array (Option Value)}
    {a_is_kind : Addr} {oc_is_kind kV_is_kind dc_is_kind pm_is_kind cd_is_kind ct_is_kind : Value} {od_is_kind an_is_kind : Option Addr} {sl_is_kind : Array (Option Value)}
    {a_is_data : Addr} {oc_is_data kV_is_data dc_is_data pm_is_data cd_is_data ct_is_data : Value} {od_is_data an_is_data : Option Addr} {sl_is_data : Array (Option Value)}
    {a_is_record : Addr} {oc_is_record kV_is_record dc_is_record pm_is_record cd_is_record ct_is_record : Value} {od_is_record an_is_record : Option Addr} {sl_is_record : Array (Option Value)}
    {a_odd : Addr} {oc_odd kV_odd dc_odd pm_odd cd_odd ct_odd : Value} {od_odd an_odd : Option Addr} {sl_odd : Array (Option Value)}
    {a_spoilt : Addr} {oc_spoilt kV_spoilt dc_spoilt pm_spoilt cd_spoilt ct_spoilt : Value} {od_spoilt an_spoilt : Option Addr} {sl_spoilt : Array (Option Value)}
    {a_less : Addr} {oc_less kV_less dc_less pm_less cd_less ct_less : Value} {od_less an_less : Option Addr} {sl_less : Array (Option Value)}
    {a_ahead : Addr} {oc_ahead kV_ahead dc_ahead pm_ahead cd_ahead ct_ahead : Value} {od_ahead an_ahead : Option Addr} {sl_ahead : Array (Option Value)}
    {a_sorted : Addr} {oc_sorted kV_sorted dc_sorted pm_sorted cd_sorted ct_sorted : Value} {od_sorted an_sorted : Option Addr} {sl_sorted : Array (Option Value)}
    {a_some : Addr} {oc_some kV_some dc_some pm_some cd_some ct_some : Value} {od_some an_some : Option Addr} {sl_some : Array (Option Value)}
    {a_word : Addr} {oc_word kV_word dc_word pm_word cd_word ct_word : Value} {od_word an_word : Option Addr} {sl_word : Array (Option Value)}
    {a_law : Addr} {oc_law kV_law dc_law pm_law cd_law ct_law : Value} {od_law an_law : Option Addr} {sl_law : Array (Option Value)}
    {tk_MOST_SIGNS : Tok}
    {tk_SIGNS : Tok}
    {tk_STAR : Tok}
    {tk_MOST_LABELS : Tok}
    {od_KINDS : Option Addr} {an_KINDS : Nat} {sl_KINDS : Array (Option Value)} {tk_KINDS_0 tk_KINDS_1 tk_KINDS_2 tk_KINDS_3 tk_KINDS_4 tk_KINDS_5 tk_KINDS_6 tk_KINDS_7 tk_KINDS_8 : Tok}
    {tk_MOST_LIVE : Tok}
    {tk_MOST_TEXT : Tok}
    {tk_PERCENT : Tok}
    {tk_MOST_VERSION : Tok}
    {tk_MOST_KEY : Tok}
    {tk_MOST_SUM : Tok}
    {tk_MOST_ADDR : Tok}
    (n_isinstance : PySem.W.nsIn K mainGlobals "isinstance" = some none)
    (n_str : PySem.W.nsIn K mainGlobals "str" = some none)
    (n_len : PySem.W.nsIn K mainGlobals "len" = some none)
    (n_MOST_SIGNS : PySem.W.nsIn K mainGlobals "MOST_SIGNS" = some (some (.int 8 tk_MOST_SIGNS)))
    (n_all : PySem.W.nsIn K mainGlobals "all" = some none)
    (n_SIGNS : PySem.W.nsIn K mainGlobals "SIGNS" = some (some (.str ("abcdefghijklmnopqrstuvwxyz0123456789-" : Str) tk_SIGNS)))
    (n_STAR : PySem.W.nsIn K mainGlobals "STAR" = some (some (.str ("*" : Str) tk_STAR)))
    (n_tuple : PySem.W.nsIn K mainGlobals "tuple" = some none)
    (n_MOST_LABELS : PySem.W.nsIn K mainGlobals "MOST_LABELS" = some (some (.int 6 tk_MOST_LABELS)))
    (n_reversed : PySem.W.nsIn K mainGlobals "reversed" = some none)
    (n_int : PySem.W.nsIn K mainGlobals "int" = some none)
    (n_bool : PySem.W.nsIn K mainGlobals "bool" = some none)
    (n_KINDS : PySem.W.nsIn K mainGlobals "KINDS" = some (some (.ref k_KINDS)))
    (lk_KINDS : K.lookup k_KINDS = some ⟨.type "tuple", od_KINDS, .seq #[.str ("addr" : Str) tk_KINDS_0, .str ("text" : Str) tk_KINDS_1, .str ("keeper" : Str) tk_KINDS_2, .str ("other" : Str) tk_KINDS_3, .str ("top" : Str) tk_KINDS_4, .str ("key" : Str) tk_KINDS_5, .str ("trust" : Str) tk_KINDS_6, .str ("seal" : Str) tk_KINDS_7, .str ("gap" : Str) tk_KINDS_8] an_KINDS, sl_KINDS⟩)
    (n_MOST_LIVE : PySem.W.nsIn K mainGlobals "MOST_LIVE" = some (some (.int 1000000 tk_MOST_LIVE)))
    (n_MOST_TEXT : PySem.W.nsIn K mainGlobals "MOST_TEXT" = some (some (.int 30 tk_MOST_TEXT)))
    (n_ord : PySem.W.nsIn K mainGlobals "ord" = some none)
    (n_PERCENT : PySem.W.nsIn K mainGlobals "PERCENT" = some (some (.int 37 tk_PERCENT)))
    (n_MOST_VERSION : PySem.W.nsIn K mainGlobals "MOST_VERSION" = some (some (.int 4294967295 tk_MOST_VERSION)))
    (n_MOST_KEY : PySem.W.nsIn K mainGlobals "MOST_KEY" = some (some (.int 1000000000000 tk_MOST_KEY)))
    (n_MOST_SUM : PySem.W.nsIn K mainGlobals "MOST_SUM" = some (some (.int 1000000006 tk_MOST_SUM)))
    (n_range : PySem.W.nsIn K mainGlobals "range" = some none)
    (n_MOST_ADDR : PySem.W.nsIn K mainGlobals "MOST_ADDR" = some (some (.int 18446744073709551615 tk_MOST_ADDR)))
    (n_list : PySem.W.nsIn K mainGlobals "list" = some none)
    (n_sorted : PySem.W.nsIn K mainGlobals "sorted" = some none)
    (n_BadRecord : PySem.W.nsIn K mainGlobals "BadRecord" = some (some (.ref c_BadRecord)))
    (k_BadRecord : PySem.W.keepIn K (.ref c_BadRecord) = true)
    (r1_BadRecord : PySem.W.subIn K (.ref c_BadRecord) (.type "BaseException") = some true)
    (r2_BadRecord : PySem.W.typeIn K (.ref c_BadRecord) = some (.type "type"))
    (x_BadRecord : PySem.W.excIn K c_BadRecord [.type "ValueError", .type "Exception", .type "BaseException", .type "object"] "ValueError.__new__" = true)
    (n_max : PySem.W.nsIn K mainGlobals "max" = some none)
    (n_enumerate : PySem.W.nsIn K mainGlobals "enumerate" = some none)
    (n_set : PySem.W.nsIn K mainGlobals "set" = some none)
    (n_HouseError : PySem.W.nsIn K mainGlobals "HouseError" = some (some (.ref c_HouseError)))
    (n_BadName : PySem.W.nsIn K mainGlobals "BadName" = some (some (.ref c_BadName)))
    (n_BadLine : PySem.W.nsIn K mainGlobals "BadLine" = some (some (.ref c_BadLine)))
    (n_BadLetter : PySem.W.nsIn K mainGlobals "BadLetter" = some (some (.ref c_BadLetter)))
    (n_BadChange : PySem.W.nsIn K mainGlobals "BadChange" = some (some (.ref c_BadChange)))
    (n_BadZone : PySem.W.nsIn K mainGlobals "BadZone" = some (some (.ref c_BadZone)))
    (n_BadTurn : PySem.W.nsIn K mainGlobals "BadTurn" = some (some (.ref c_BadTurn)))
    (n_BadRow : PySem.W.nsIn K mainGlobals "BadRow" = some (some (.ref c_BadRow)))
    (n_ValueError : PySem.W.nsIn K mainGlobals "ValueError" = some none)
    (nf_p_is_plain : PySem.W.nsIn K mainGlobals "is_plain" = some (some (.ref a_p_is_plain)))
    (l_p_is_plain : K.lookup a_p_is_plain = some ⟨oc_p_is_plain, od_p_is_plain, .func (PySem.W.fnOf "is_plain" "is_plain" (defArgs st_p_is_plain) (defBody st_p_is_plain) (defScope st_p_is_plain) .none kV_p_is_plain dc_p_is_plain pm_p_is_plain an_p_is_plain cd_p_is_plain ct_p_is_plain), sl_p_is_plain⟩)
    (c_p_is_plain : PySem.W.codeIn K cd_p_is_plain "is_plain" = true)
    (k_p_is_plain : PySem.W.keepIn K (.ref a_p_is_plain) = true)
    (nf_p_is_label : PySem.W.nsIn K mainGlobals "is_label" = some (some (.ref a_p_is_label)))
    (l_p_is_label : K.lookup a_p_is_label = some ⟨oc_p_is_label, od_p_is_label, .func (PySem.W.fnOf "is_label" "is_label" (defArgs st_p_is_label) (defBody st_p_is_label) (defScope st_p_is_label) .none kV_p_is_label dc_p_is_label pm_p_is_label an_p_is_label cd_p_is_label ct_p_is_label), sl_p_is_label⟩)
    (c_p_is_label : PySem.W.codeIn K cd_p_is_label "is_label" = true)
    (k_p_is_label : PySem.W.keepIn K (.ref a_p_is_label) = true)
    (nf_p_is_name : PySem.W.nsIn K mainGlobals "is_name" = some (some (.ref a_p_is_name)))
    (l_p_is_name : K.lookup a_p_is_name = some ⟨oc_p_is_name, od_p_is_name, .func (PySem.W.fnOf "is_name" "is_name" (defArgs st_p_is_name) (defBody st_p_is_name) (defScope st_p_is_name) .none kV_p_is_name dc_p_is_name pm_p_is_name an_p_is_name cd_p_is_name ct_p_is_name), sl_p_is_name⟩)
    (c_p_is_name : PySem.W.codeIn K cd_p_is_name "is_name" = true)
    (k_p_is_name : PySem.W.keepIn K (.ref a_p_is_name) = true)
    (nf_p_is_starless : PySem.W.nsIn K mainGlobals "is_starless" = some (some (.ref a_p_is_starless)))
    (l_p_is_starless : K.lookup a_p_is_starless = some ⟨oc_p_is_starless, od_p_is_starless, .func (PySem.W.fnOf "is_starless" "is_starless" (defArgs st_p_is_starless) (defBody st_p_is_starless) (defScope st_p_is_starless) .none kV_p_is_starless dc_p_is_starless pm_p_is_starless an_p_is_starless cd_p_is_starless ct_p_is_starless), sl_p_is_starless⟩)
    (c_p_is_starless : PySem.W.codeIn K cd_p_is_starless "is_starless" = true)
    (k_p_is_starless : PySem.W.keepIn K (.ref a_p_is_starless) = true)
    (nf_p_name_rank : PySem.W.nsIn K mainGlobals "name_rank" = some (some (.ref a_p_name_rank)))
    (l_p_name_rank : K.lookup a_p_name_rank = some ⟨oc_p_name_rank, od_p_name_rank, .func (PySem.W.fnOf "name_rank" "name_rank" (defArgs st_p_name_rank) (defBody st_p_name_rank) (defScope st_p_name_rank) .none kV_p_name_rank dc_p_name_rank pm_p_name_rank an_p_name_rank cd_p_name_rank ct_p_name_rank), sl_p_name_rank⟩)
    (c_p_name_rank : PySem.W.codeIn K cd_p_name_rank "name_rank" = true)
    (k_p_name_rank : PySem.W.keepIn K (.ref a_p_name_rank) = true)
    (nf_p_is_among : PySem.W.nsIn K mainGlobals "is_among" = some (some (.ref a_p_is_among)))
    (l_p_is_among : K.lookup a_p_is_among = some ⟨oc_p_is_among, od_p_is_among, .func (PySem.W.fnOf "is_among" "is_among" (defArgs st_p_is_among) (defBody st_p_is_among) (defScope st_p_is_among) .none kV_p_is_among dc_p_is_among pm_p_is_among an_p_is_among cd_p_is_among ct_p_is_among), sl_p_is_among⟩)
    (c_p_is_among : PySem.W.codeIn K cd_p_is_among "is_among" = true)
    (k_p_is_among : PySem.W.keepIn K (.ref a_p_is_among) = true)
    (nf_p_is_kind : PySem.W.nsIn K mainGlobals "is_kind" = some (some (.ref a_p_is_kind)))
    (l_p_is_kind : K.lookup a_p_is_kind = some ⟨oc_p_is_kind, od_p_is_kind, .func (PySem.W.fnOf "is_kind" "is_kind" (defArgs st_p_is_kind) (defBody st_p_is_kind) (defScope st_p_is_kind) .none kV_p_is_kind dc_p_is_kind pm_p_is_kind an_p_is_kind cd_p_is_kind ct_p_is_kind), sl_p_is_kind⟩)
    (c_p_is_kind : PySem.W.codeIn K cd_p_is_kind "is_kind" = true)
    (k_p_is_kind : PySem.W.keepIn K (.ref a_p_is_kind) = true)
    (nf_p_is_live : PySem.W.nsIn K mainGlobals "is_live" = some (some (.ref a_p_is_live)))
    (l_p_is_live : K.lookup a_p_is_live = some ⟨oc_p_is_live, od_p_is_live, .func (PySem.W.fnOf "is_live" "is_live" (defArgs st_p_is_live) (defBody st_p_is_live) (defScope st_p_is_live) .none kV_p_is_live dc_p_is_live pm_p_is_live an_p_is_live cd_p_is_live ct_p_is_live), sl_p_is_live⟩)
    (c_p_is_live : PySem.W.codeIn K cd_p_is_live "is_live" = true)
    (k_p_is_live : PySem.W.keepIn K (.ref a_p_is_live) = true)
    (nf_p_is_words : PySem.W.nsIn K mainGlobals "is_words" = some (some (.ref a_p_is_words)))
    (l_p_is_words : K.lookup a_p_is_words = some ⟨oc_p_is_words, od_p_is_words, .func (PySem.W.fnOf "is_words" "is_words" (defArgs st_p_is_words) (defBody st_p_is_words) (defScope st_p_is_words) .none kV_p_is_words dc_p_is_words pm_p_is_words an_p_is_words cd_p_is_words ct_p_is_words), sl_p_is_words⟩)
    (c_p_is_words : PySem.W.codeIn K cd_p_is_words "is_words" = true)
    (k_p_is_words : PySem.W.keepIn K (.ref a_p_is_words) = true)
    (nf_p_is_top : PySem.W.nsIn K mainGlobals "is_top" = some (some (.ref a_p_is_top)))
    (l_p_is_top : K.lookup a_p_is_top = some ⟨oc_p_is_top, od_p_is_top, .func (PySem.W.fnOf "is_top" "is_top" (defArgs st_p_is_top) (defBody st_p_is_top) (defScope st_p_is_top) .none kV_p_is_top dc_p_is_top pm_p_is_top an_p_is_top cd_p_is_top ct_p_is_top), sl_p_is_top⟩)
    (c_p_is_top : PySem.W.codeIn K cd_p_is_top "is_top" = true)
    (k_p_is_top : PySem.W.keepIn K (.ref a_p_is_top) = true)
    (nf_p_is_seal : PySem.W.nsIn K mainGlobals "is_seal" = some (some (.ref a_p_is_seal)))
    (l_p_is_seal : K.lookup a_p_is_seal = some ⟨oc_p_is_seal, od_p_is_seal, .func (PySem.W.fnOf "is_seal" "is_seal" (defArgs st_p_is_seal) (defBody st_p_is_seal) (defScope st_p_is_seal) .none kV_p_is_seal dc_p_is_seal pm_p_is_seal an_p_is_seal cd_p_is_seal ct_p_is_seal), sl_p_is_seal⟩)
    (c_p_is_seal : PySem.W.codeIn K cd_p_is_seal "is_seal" = true)
    (k_p_is_seal : PySem.W.keepIn K (.ref a_p_is_seal) = true)
    (nf_p_is_gap : PySem.W.nsIn K mainGlobals "is_gap" = some (some (.ref a_p_is_gap)))
    (l_p_is_gap : K.lookup a_p_is_gap = some ⟨oc_p_is_gap, od_p_is_gap, .func (PySem.W.fnOf "is_gap" "is_gap" (defArgs st_p_is_gap) (defBody st_p_is_gap) (defScope st_p_is_gap) .none kV_p_is_gap dc_p_is_gap pm_p_is_gap an_p_is_gap cd_p_is_gap ct_p_is_gap), sl_p_is_gap⟩)
    (c_p_is_gap : PySem.W.codeIn K cd_p_is_gap "is_gap" = true)
    (k_p_is_gap : PySem.W.keepIn K (.ref a_p_is_gap) = true)
    (nf_p_is_data : PySem.W.nsIn K mainGlobals "is_data" = some (some (.ref a_p_is_data)))
    (l_p_is_data : K.lookup a_p_is_data = some ⟨oc_p_is_data, od_p_is_data, .func (PySem.W.fnOf "is_data" "is_data" (defArgs st_p_is_data) (defBody st_p_is_data) (defScope st_p_is_data) .none kV_p_is_data dc_p_is_data pm_p_is_data an_p_is_data cd_p_is_data ct_p_is_data), sl_p_is_data⟩)
    (c_p_is_data : PySem.W.codeIn K cd_p_is_data "is_data" = true)
    (k_p_is_data : PySem.W.keepIn K (.ref a_p_is_data) = true)
    (nf_p_is_record : PySem.W.nsIn K mainGlobals "is_record" = some (some (.ref a_p_is_record)))
    (l_p_is_record : K.lookup a_p_is_record = some ⟨oc_p_is_record, od_p_is_record, .func (PySem.W.fnOf "is_record" "is_record" (defArgs st_p_is_record) (defBody st_p_is_record) (defScope st_p_is_record) .none kV_p_is_record dc_p_is_record pm_p_is_record an_p_is_record cd_p_is_record ct_p_is_record), sl_p_is_record⟩)
    (c_p_is_record : PySem.W.codeIn K cd_p_is_record "is_record" = true)
    (k_p_is_record : PySem.W.keepIn K (.ref a_p_is_record) = true)
    (nf_p_data_rank : PySem.W.nsIn K mainGlobals "data_rank" = some (some (.ref a_p_data_rank)))
    (l_p_data_rank : K.lookup a_p_data_rank = some ⟨oc_p_data_rank, od_p_data_rank, .func (PySem.W.fnOf "data_rank" "data_rank" (defArgs st_p_data_rank) (defBody st_p_data_rank) (defScope st_p_data_rank) .none kV_p_data_rank dc_p_data_rank pm_p_data_rank an_p_data_rank cd_p_data_rank ct_p_data_rank), sl_p_data_rank⟩)
    (c_p_data_rank : PySem.W.codeIn K cd_p_data_rank "data_rank" = true)
    (k_p_data_rank : PySem.W.keepIn K (.ref a_p_data_rank) = true)
    (nf_p_record_rank : PySem.W.nsIn K mainGlobals "record_rank" = some (some (.ref a_p_record_rank)))
    (l_p_record_rank : K.lookup a_p_record_rank = some ⟨oc_p_record_rank, od_p_record_rank, .func (PySem.W.fnOf "record_rank" "record_rank" (defArgs st_p_record_rank) (defBody st_p_record_rank) (defScope st_p_record_rank) .none kV_p_record_rank dc_p_record_rank pm_p_record_rank an_p_record_rank cd_p_record_rank ct_p_record_rank), sl_p_record_rank⟩)
    (c_p_record_rank : PySem.W.codeIn K cd_p_record_rank "record_rank" = true)
    (k_p_record_rank : PySem.W.keepIn K (.ref a_p_record_rank) = true)
    (nf_p_are_records : PySem.W.nsIn K mainGlobals "are_records" = some (some (.ref a_p_are_records)))
    (l_p_are_records : K.lookup a_p_are_records = some ⟨oc_p_are_records, od_p_are_records, .func (PySem.W.fnOf "are_records" "are_records" (defArgs st_p_are_records) (defBody st_p_are_records) (defScope st_p_are_records) .none kV_p_are_records dc_p_are_records pm_p_are_records an_p_are_records cd_p_are_records ct_p_are_records), sl_p_are_records⟩)
    (c_p_are_records : PySem.W.codeIn K cd_p_are_records "are_records" = true)
    (k_p_are_records : PySem.W.keepIn K (.ref a_p_are_records) = true)
    (nf_p_in_order : PySem.W.nsIn K mainGlobals "in_order" = some (some (.ref a_p_in_order)))
    (l_p_in_order : K.lookup a_p_in_order = some ⟨oc_p_in_order, od_p_in_order, .func (PySem.W.fnOf "in_order" "in_order" (defArgs st_p_in_order) (defBody st_p_in_order) (defScope st_p_in_order) .none kV_p_in_order dc_p_in_order pm_p_in_order an_p_in_order cd_p_in_order ct_p_in_order), sl_p_in_order⟩)
    (c_p_in_order : PySem.W.codeIn K cd_p_in_order "in_order" = true)
    (k_p_in_order : PySem.W.keepIn K (.ref a_p_in_order) = true)
    (nf_p_ordered : PySem.W.nsIn K mainGlobals "ordered" = some (some (.ref a_p_ordered)))
    (l_p_ordered : K.lookup a_p_ordered = some ⟨oc_p_ordered, od_p_ordered, .func (PySem.W.fnOf "ordered" "ordered" (defArgs st_p_ordered) (defBody st_p_ordered) (defScope st_p_ordered) .none kV_p_ordered dc_p_ordered pm_p_ordered an_p_ordered cd_p_ordered ct_p_ordered), sl_p_ordered⟩)
    (c_p_ordered : PySem.W.codeIn K cd_p_ordered "ordered" = true)
    (k_p_ordered : PySem.W.keepIn K (.ref a_p_ordered) = true)
    (nf_cell_at : PySem.W.nsIn K mainGlobals "_law_cell_at" = some (some (.ref a_cell_at)))
    (l_cell_at : K.lookup a_cell_at = some ⟨oc_cell_at, od_cell_at, .func (PySem.W.fnOf "_law_cell_at" "_law_cell_at" (defArgs st_cell_at) (defBody st_cell_at) (defScope st_cell_at) .none kV_cell_at dc_cell_at pm_cell_at an_cell_at cd_cell_at ct_cell_at), sl_cell_at⟩)
    (c_cell_at : PySem.W.codeIn K cd_cell_at "_law_cell_at" = true)
    (k_cell_at : PySem.W.keepIn K (.ref a_cell_at) = true)
    (nf_next : PySem.W.nsIn K mainGlobals "_law_next" = some (some (.ref a_next)))
    (l_next : K.lookup a_next = some ⟨oc_next, od_next, .func (PySem.W.fnOf "_law_next" "_law_next" (defArgs st_next) (defBody st_next) (defScope st_next) .none kV_next dc_next pm_next an_next cd_next ct_next), sl_next⟩)
    (c_next : PySem.W.codeIn K cd_next "_law_next" = true)
    (k_next : PySem.W.keepIn K (.ref a_next) = true)
    (nf_great : PySem.W.nsIn K mainGlobals "_law_great" = some (some (.ref a_great)))
    (l_great : K.lookup a_great = some ⟨oc_great, od_great, .func (PySem.W.fnOf "_law_great" "_law_great" (defArgs st_great) (defBody st_great) (defScope st_great) .none kV_great dc_great pm_great an_great cd_great ct_great), sl_great⟩)
    (c_great : PySem.W.codeIn K cd_great "_law_great" = true)
    (k_great : PySem.W.keepIn K (.ref a_great) = true)
    (nf_signs : PySem.W.nsIn K mainGlobals "_law_signs" = some (some (.ref a_signs)))
    (l_signs : K.lookup a_signs = some ⟨oc_signs, od_signs, .func (PySem.W.fnOf "_law_signs" "_law_signs" (defArgs st_signs) (defBody st_signs) (defScope st_signs) .none kV_signs dc_signs pm_signs an_signs cd_signs ct_signs), sl_signs⟩)
    (c_signs : PySem.W.codeIn K cd_signs "_law_signs" = true)
    (k_signs : PySem.W.keepIn K (.ref a_signs) = true)
    (nf_label : PySem.W.nsIn K mainGlobals "_law_label" = some (some (.ref a_label)))
    (l_label : K.lookup a_label = some ⟨oc_label, od_label, .func (PySem.W.fnOf "_law_label" "_law_label" (defArgs st_label) (defBody st_label) (defScope st_label) .none kV_label dc_label pm_label an_label cd_label ct_label), sl_label⟩)
    (c_label : PySem.W.codeIn K cd_label "_law_label" = true)
    (k_label : PySem.W.keepIn K (.ref a_label) = true)
    (nf_labels : PySem.W.nsIn K mainGlobals "_law_labels" = some (some (.ref a_labels)))
    (l_labels : K.lookup a_labels = some ⟨oc_labels, od_labels, .func (PySem.W.fnOf "_law_labels" "_law_labels" (defArgs st_labels) (defBody st_labels) (defScope st_labels) .none kV_labels dc_labels pm_labels an_labels cd_labels ct_labels), sl_labels⟩)
    (c_labels : PySem.W.codeIn K cd_labels "_law_labels" = true)
    (k_labels : PySem.W.keepIn K (.ref a_labels) = true)
    (nf_name : PySem.W.nsIn K mainGlobals "_law_name" = some (some (.ref a_name)))
    (l_name : K.lookup a_name = some ⟨oc_name, od_name, .func (PySem.W.fnOf "_law_name" "_law_name" (defArgs st_name) (defBody st_name) (defScope st_name) .none kV_name dc_name pm_name an_name cd_name ct_name), sl_name⟩)
    (c_name : PySem.W.codeIn K cd_name "_law_name" = true)
    (k_name : PySem.W.keepIn K (.ref a_name) = true)
    (nf_plain : PySem.W.nsIn K mainGlobals "_law_plain" = some (some (.ref a_plain)))
    (l_plain : K.lookup a_plain = some ⟨oc_plain, od_plain, .func (PySem.W.fnOf "_law_plain" "_law_plain" (defArgs st_plain) (defBody st_plain) (defScope st_plain) .none kV_plain dc_plain pm_plain an_plain cd_plain ct_plain), sl_plain⟩)
    (c_plain : PySem.W.codeIn K cd_plain "_law_plain" = true)
    (k_plain : PySem.W.keepIn K (.ref a_plain) = true)
    (nf_text : PySem.W.nsIn K mainGlobals "_law_text" = some (some (.ref a_text)))
    (l_text : K.lookup a_text = some ⟨oc_text, od_text, .func (PySem.W.fnOf "_law_text" "_law_text" (defArgs st_text) (defBody st_text) (defScope st_text) .none kV_text dc_text pm_text an_text cd_text ct_text), sl_text⟩)
    (c_text : PySem.W.codeIn K cd_text "_law_text" = true)
    (k_text : PySem.W.keepIn K (.ref a_text) = true)
    (nf_kinds : PySem.W.nsIn K mainGlobals "_law_kinds" = some (some (.ref a_kinds)))
    (l_kinds : K.lookup a_kinds = some ⟨oc_kinds, od_kinds, .func (PySem.W.fnOf "_law_kinds" "_law_kinds" (defArgs st_kinds) (defBody st_kinds) (defScope st_kinds) .none kV_kinds dc_kinds pm_kinds an_kinds cd_kinds ct_kinds), sl_kinds⟩)
    (c_kinds : PySem.W.codeIn K cd_kinds "_law_kinds" = true)
    (k_kinds : PySem.W.keepIn K (.ref a_kinds) = true)
    (nf_data : PySem.W.nsIn K mainGlobals "_law_data" = some (some (.ref a_data)))
    (l_data : K.lookup a_data = some ⟨oc_data, od_data, .func (PySem.W.fnOf "_law_data" "_law_data" (defArgs st_data) (defBody st_data) (defScope st_data) .none kV_data dc_data pm_data an_data cd_data ct_data), sl_data⟩)
    (c_data : PySem.W.codeIn K cd_data "_law_data" = true)
    (k_data : PySem.W.keepIn K (.ref a_data) = true)
    (nf_record : PySem.W.nsIn K mainGlobals "_law_record" = some (some (.ref a_record)))
    (l_record : K.lookup a_record = some ⟨oc_record, od_record, .func (PySem.W.fnOf "_law_record" "_law_record" (defArgs st_record) (defBody st_record) (defScope st_record) .none kV_record dc_record pm_record an_record cd_record ct_record), sl_record⟩)
    (c_record : PySem.W.codeIn K cd_record "_law_record" = true)
    (k_record : PySem.W.keepIn K (.ref a_record) = true)
    (nf_before : PySem.W.nsIn K mainGlobals "_law_before" = some (some (.ref a_before)))
    (l_before : K.lookup a_before = some ⟨oc_before, od_before, .func (PySem.W.fnOf "_law_before" "_law_before" (defArgs st_before) (defBody st_before) (defScope st_before) .none kV_before dc_before pm_before an_before cd_before ct_before), sl_before⟩)
    (c_before : PySem.W.codeIn K cd_before "_law_before" = true)
    (k_before : PySem.W.keepIn K (.ref a_before) = true)
    (nf_among : PySem.W.nsIn K mainGlobals "_law_among" = some (some (.ref a_among)))
    (l_among : K.lookup a_among = some ⟨oc_among, od_among, .func (PySem.W.fnOf "_law_among" "_law_among" (defArgs st_among) (defBody st_among) (defScope st_among) .none kV_among dc_among pm_among an_among cd_among ct_among), sl_among⟩)
    (c_among : PySem.W.codeIn K cd_among "_law_among" = true)
    (k_among : PySem.W.keepIn K (.ref a_among) = true)
    (nf_is_name : PySem.W.nsIn K mainGlobals "_law_is_name" = some (some (.ref a_is_name)))
    (l_is_name : K.lookup a_is_name = some ⟨oc_is_name, od_is_name, .func (PySem.W.fnOf "_law_is_name" "_law_is_name" (defArgs st_is_name) (defBody st_is_name) (defScope st_is_name) .none kV_is_name dc_is_name pm_is_name an_is_name cd_is_name ct_is_name), sl_is_name⟩)
    (c_is_name : PySem.W.codeIn K cd_is_name "_law_is_name" = true)
    (k_is_name : PySem.W.keepIn K (.ref a_is_name) = true)
    (nf_is_kind : PySem.W.nsIn K mainGlobals "_law_is_kind" = some (some (.ref a_is_kind)))
    (l_is_kind : K.lookup a_is_kind = some ⟨oc_is_kind, od_is_kind, .func (PySem.W.fnOf "_law_is_kind" "_law_is_kind" (defArgs st_is_kind) (defBody st_is_kind) (defScope st_is_kind) .none kV_is_kind dc_is_kind pm_is_kind an_is_kind cd_is_kind ct_is_kind), sl_is_kind⟩)
    (c_is_kind : PySem.W.codeIn K cd_is_kind "_law_is_kind" = true)
    (k_is_kind : PySem.W.keepIn K (.ref a_is_kind) = true)
    (nf_is_data : PySem.W.nsIn K mainGlobals "_law_is_data" = some (some (.ref a_is_data)))
    (l_is_data : K.lookup a_is_data = some ⟨oc_is_data, od_is_data, .func (PySem.W.fnOf "_law_is_data" "_law_is_data" (defArgs st_is_data) (defBody st_is_data) (defScope st_is_data) .none kV_is_data dc_is_data pm_is_data an_is_data cd_is_data ct_is_data), sl_is_data⟩)
    (c_is_data : PySem.W.codeIn K cd_is_data "_law_is_data" = true)
    (k_is_data : PySem.W.keepIn K (.ref a_is_data) = true)
    (nf_is_record : PySem.W.nsIn K mainGlobals "_law_is_record" = some (some (.ref a_is_record)))
    (l_is_record : K.lookup a_is_record = some ⟨oc_is_record, od_is_record, .func (PySem.W.fnOf "_law_is_record" "_law_is_record" (defArgs st_is_record) (defBody st_is_record) (defScope st_is_record) .none kV_is_record dc_is_record pm_is_record an_is_record cd_is_record ct_is_record), sl_is_record⟩)
    (c_is_record : PySem.W.codeIn K cd_is_record "_law_is_record" = true)
    (k_is_record : PySem.W.keepIn K (.ref a_is_record) = true)
    (nf_odd : PySem.W.nsIn K mainGlobals "_law_odd" = some (some (.ref a_odd)))
    (l_odd : K.lookup a_odd = some ⟨oc_odd, od_odd, .func (PySem.W.fnOf "_law_odd" "_law_odd" (defArgs st_odd) (defBody st_odd) (defScope st_odd) .none kV_odd dc_odd pm_odd an_odd cd_odd ct_odd), sl_odd⟩)
    (c_odd : PySem.W.codeIn K cd_odd "_law_odd" = true)
    (k_odd : PySem.W.keepIn K (.ref a_odd) = true)
    (nf_spoilt : PySem.W.nsIn K mainGlobals "_law_spoilt" = some (some (.ref a_spoilt)))
    (l_spoilt : K.lookup a_spoilt = some ⟨oc_spoilt, od_spoilt, .func (PySem.W.fnOf "_law_spoilt" "_law_spoilt" (defArgs st_spoilt) (defBody st_spoilt) (defScope st_spoilt) .none kV_spoilt dc_spoilt pm_spoilt an_spoilt cd_spoilt ct_spoilt), sl_spoilt⟩)
    (c_spoilt : PySem.W.codeIn K cd_spoilt "_law_spoilt" = true)
    (k_spoilt : PySem.W.keepIn K (.ref a_spoilt) = true)
    (nf_less : PySem.W.nsIn K mainGlobals "_law_less" = some (some (.ref a_less)))
    (l_less : K.lookup a_less = some ⟨oc_less, od_less, .func (PySem.W.fnOf "_law_less" "_law_less" (defArgs st_less) (defBody st_less) (defScope st_less) .none kV_less dc_less pm_less an_less cd_less ct_less), sl_less⟩)
    (c_less : PySem.W.codeIn K cd_less "_law_less" = true)
    (k_less : PySem.W.keepIn K (.ref a_less) = true)
    (nf_ahead : PySem.W.nsIn K mainGlobals "_law_ahead" = some (some (.ref a_ahead)))
    (l_ahead : K.lookup a_ahead = some ⟨oc_ahead, od_ahead, .func (PySem.W.fnOf "_law_ahead" "_law_ahead" (defArgs st_ahead) (defBody st_ahead) (defScope st_ahead) .none kV_ahead dc_ahead pm_ahead an_ahead cd_ahead ct_ahead), sl_ahead⟩)
    (c_ahead : PySem.W.codeIn K cd_ahead "_law_ahead" = true)
    (k_ahead : PySem.W.keepIn K (.ref a_ahead) = true)
    (nf_sorted : PySem.W.nsIn K mainGlobals "_law_sorted" = some (some (.ref a_sorted)))
    (l_sorted : K.lookup a_sorted = some ⟨oc_sorted, od_sorted, .func (PySem.W.fnOf "_law_sorted" "_law_sorted" (defArgs st_sorted) (defBody st_sorted) (defScope st_sorted) .none kV_sorted dc_sorted pm_sorted an_sorted cd_sorted ct_sorted), sl_sorted⟩)
    (c_sorted : PySem.W.codeIn K cd_sorted "_law_sorted" = true)
    (k_sorted : PySem.W.keepIn K (.ref a_sorted) = true)
    (nf_some : PySem.W.nsIn K mainGlobals "_law_some" = some (some (.ref a_some)))
    (l_some : K.lookup a_some = some ⟨oc_some, od_some, .func (PySem.W.fnOf "_law_some" "_law_some" (defArgs st_some) (defBody st_some) (defScope st_some) .none kV_some dc_some pm_some an_some cd_some ct_some), sl_some⟩)
    (c_some : PySem.W.codeIn K cd_some "_law_some" = true)
    (k_some : PySem.W.keepIn K (.ref a_some) = true)
    (nf_word : PySem.W.nsIn K mainGlobals "_law_word" = some (some (.ref a_word)))
    (l_word : K.lookup a_word = some ⟨oc_word, od_word, .func (PySem.W.fnOf "_law_word" "_law_word" (defArgs st_word) (defBody st_word) (defScope st_word) .none kV_word dc_word pm_word an_word cd_word ct_word), sl_word⟩)
    (c_word : PySem.W.codeIn K cd_word "_law_word" = true)
    (k_word : PySem.W.keepIn K (.ref a_word) = true)
    (nf_law : PySem.W.nsIn K mainGlobals "law" = some (some (.ref a_law)))
    (l_law : K.lookup a_law = some ⟨oc_law, od_law, .func (PySem.W.fnOf "law" "law" (defArgs st_law) (defBody st_law) (defScope st_law) .none kV_law dc_law pm_law an_law cd_law ct_law), sl_law⟩)
    (c_law : PySem.W.codeIn K cd_law "law" = true)
    (k_law : PySem.W.keepIn K (.ref a_law) = true)
    (i_BadRecord : PySem.W.isClsIn K c_BadRecord = true)
    (y_BadRecord : PySem.W.typeIn K (.ref c_BadRecord) = some (.type "type"))
    (i_HouseError : PySem.W.isClsIn K c_HouseError = true)
    (y_HouseError : PySem.W.typeIn K (.ref c_HouseError) = some (.type "type"))
    (s_BadRecord : PySem.W.subIn K (.ref c_BadRecord) (.ref c_BadRecord) = some true)
    (s_VE : PySem.W.subIn K (.ref c_BadRecord) (.type "ValueError") = some true)
    (s_HE : PySem.W.subIn K (.ref c_BadRecord) (.ref c_HouseError) = some true)
    (b_HE : PySem.W.subIn K (.ref c_HouseError) (.type "BaseException") = some true)
    (e1 : PySem.W.findIn K (.ref c_BadRecord) "__getattribute__" = some (some (.builtin "BaseException.__getattribute__")))
    (e2 : PySem.W.findIn K (.ref c_BadRecord) "__getattr__" = some none)
    (e4 : PySem.W.hasDictIn K c_BadRecord = true)
    (e5 : PySem.W.findIn K (.ref c_BadRecord) "__class__" = some (some (.builtin "object.__class__")))
    (e6 : PySem.W.specialIn K (.builtin "object.__class__") "__get__" = some (some (.builtin "getset_descriptor.__get__")))
    (e7 : PySem.W.takesIn K (.builtin "object.__class__") = some true)
    (e8 : PySem.W.mroIn K c_BadRecord (.type "object") = some true)
    (i_BadChange : PySem.W.isClsIn K c_BadChange = true)
    (y_BadChange : PySem.W.typeIn K (.ref c_BadChange) = some (.type "type"))
    (s_BadChange : PySem.W.subIn K (.ref c_BadRecord) (.ref c_BadChange) = some false)
    (i_BadLetter : PySem.W.isClsIn K c_BadLetter = true)
    (y_BadLetter : PySem.W.typeIn K (.ref c_BadLetter) = some (.type "type"))
    (s_BadLetter : PySem.W.subIn K (.ref c_BadRecord) (.ref c_BadLetter) = some false)
    (i_BadLine : PySem.W.isClsIn K c_BadLine = true)
    (y_BadLine : PySem.W.typeIn K (.ref c_BadLine) = some (.type "type"))
    (s_BadLine : PySem.W.subIn K (.ref c_BadRecord) (.ref c_BadLine) = some false)
    (i_BadName : PySem.W.isClsIn K c_BadName = true)
    (y_BadName : PySem.W.typeIn K (.ref c_BadName) = some (.type "type"))
    (s_BadName : PySem.W.subIn K (.ref c_BadRecord) (.ref c_BadName) = some false)
    (i_BadRow : PySem.W.isClsIn K c_BadRow = true)
    (y_BadRow : PySem.W.typeIn K (.ref c_BadRow) = some (.type "type"))
    (s_BadRow : PySem.W.subIn K (.ref c_BadRecord) (.ref c_BadRow) = some false)
    (i_BadTurn : PySem.W.isClsIn K c_BadTurn = true)
    (y_BadTurn : PySem.W.typeIn K (.ref c_BadTurn) = some (.type "type"))
    (s_BadTurn : PySem.W.subIn K (.ref c_BadRecord) (.ref c_BadTurn) = some false)
    (i_BadZone : PySem.W.isClsIn K c_BadZone = true)
    (y_BadZone : PySem.W.typeIn K (.ref c_BadZone) = some (.type "type"))
    (s_BadZone : PySem.W.subIn K (.ref c_BadRecord) (.ref c_BadZone) = some false) :
    ∃ fd : FuncData, (∀ (s : Shared) (u : Value), BindsTo s fd ⟨[u], []⟩ [("_law_script", u)]) ∧ ∀ base : Heap, K.In base → base.Ns mainGlobals mg → FnOk l.prog w K mg base (L2.CX l.prog w) 10 fa fd ["_law_script"] (spS K g_law) := by
  have e := hfa.symm.trans (PySem.W.mg_of X G nf_law)
  cases e
  have T : Txt K mg c_BadRecord c_HouseError c_BadName c_BadLine c_BadLetter c_BadChange c_BadZone c_BadTurn c_BadRow k_KINDS := { m_isinstance := PySem.W.mg_none_of X G n_isinstance, m_str := PySem.W.mg_none_of X G n_str, m_len := PySem.W.mg_none_of X G n_len, m_MOST_SIGNS := ⟨_, PySem.W.mg_of X G n_MOST_SIGNS⟩, m_all := PySem.W.mg_none_of X G n_all, m_SIGNS := ⟨_, PySem.W.mg_of X G n_SIGNS⟩, m_STAR := ⟨_, PySem.W.mg_of X G n_STAR⟩, m_tuple := PySem.W.mg_none_of X G n_tuple, m_MOST_LABELS := ⟨_, PySem.W.mg_of X G n_MOST_LABELS⟩, m_reversed := PySem.W.mg_none_of X G n_reversed, m_int := PySem.W.mg_none_of X G n_int, m_bool := PySem.W.mg_none_of X G n_bool, m_KINDS := PySem.W.mg_of X G n_KINDS, t_KINDS := ⟨[.str ("addr" : Str), .str ("text" : Str), .str ("keeper" : Str), .str ("other" : Str), .str ("top" : Str), .str ("key" : Str), .str ("trust" : Str), .str ("seal" : Str), .str ("gap" : Str)], fun Z => .cons (.str _) (.cons (.str _) (.cons (.str _) (.cons (.str _) (.cons (.str _) (.cons (.str _) (.cons (.str _) (.cons (.str _) (.cons (.str _) (.nil))))))))), _, _, _, lk_KINDS, rfl, rfl, (by show 9 ≤ sizeLine; decide), .cons ⟨_, rfl⟩ (.cons ⟨_, rfl⟩ (.cons ⟨_, rfl⟩ (.cons ⟨_, rfl⟩ (.cons ⟨_, rfl⟩ (.cons ⟨_, rfl⟩ (.cons ⟨_, rfl⟩ (.cons ⟨_, rfl⟩ (.cons ⟨_, rfl⟩ (.nil)))))))))⟩, m_MOST_LIVE := ⟨_, PySem.W.mg_of X G n_MOST_LIVE⟩, m_MOST_TEXT := ⟨_, PySem.W.mg_of X G n_MOST_TEXT⟩, m_ord := PySem.W.mg_none_of X G n_ord, m_PERCENT := ⟨_, PySem.W.mg_of X G n_PERCENT⟩, m_MOST_VERSION := ⟨_, PySem.W.mg_of X G n_MOST_VERSION⟩, m_MOST_KEY := ⟨_, PySem.W.mg_of X G n_MOST_KEY⟩, m_MOST_SUM := ⟨_, PySem.W.mg_of X G n_MOST_SUM⟩, m_range := PySem.W.mg_none_of X G n_range, m_MOST_ADDR := ⟨_, PySem.W.mg_of X G n_MOST_ADDR⟩, m_list := PySem.W.mg_none_of X G n_list, m_sorted := PySem.W.mg_none_of X G n_sorted, m_BadRecord := PySem.W.mg_of X G n_BadRecord, x_BadRecord := ⟨PySem.W.mg_of X G n_BadRecord, k_BadRecord, r1_BadRecord, r2_BadRecord, _, _, _, _, PySem.F.excBase_ValueError, x_BadRecord⟩, m_max := PySem.W.mg_none_of X G n_max, m_enumerate := PySem.W.mg_none_of X G n_enumerate, m_set := PySem.W.mg_none_of X G n_set, m_HouseError := PySem.W.mg_of X G n_HouseError, m_BadName := PySem.W.mg_of X G n_BadName, m_BadLine := PySem.W.mg_of X G n_BadLine, m_BadLetter := PySem.W.mg_of X G n_BadLetter, m_BadChange := PySem.W.mg_of X G n_BadChange, m_BadZone := PySem.W.mg_of X G n_BadZone, m_BadTurn := PySem.W.mg_of X G n_BadTurn, m_BadRow := PySem.W.mg_of X G n_BadRow, m_ValueError := PySem.W.mg_none_of X G n_ValueError }
  have F : KF K c_BadRecord c_HouseError c_BadName c_BadLine c_BadLetter c_BadChange c_BadZone c_BadTurn c_BadRow k_KINDS := ⟨DL.kit_VE (by decide +kernel) s_VE, DL.kit_own i_BadRecord y_BadRecord s_BadRecord s_BadRecord, DL.exm_own b_HE i_HouseError y_HouseError s_HE, ⟨e1, e2, r1_BadRecord, e4, e5, e6, e7, e8⟩, DL.kit_own i_BadChange y_BadChange s_BadChange s_BadRecord, DL.kit_own i_BadLetter y_BadLetter s_BadLetter s_BadRecord, DL.kit_own i_BadLine y_BadLine s_BadLine s_BadRecord, DL.kit_own i_BadName y_BadName s_BadName s_BadRecord, DL.kit_own i_BadRow y_BadRow s_BadRow s_BadRecord, DL.kit_own i_BadTurn y_BadTurn s_BadTurn s_BadRecord, DL.kit_own i_BadZone y_BadZone s_BadZone s_BadRecord⟩
  have r_p_is_plain : Raw K mg "is_plain" st_p_is_plain ps_p_is_plain := raw_mk X G nf_p_is_plain l_p_is_plain c_p_is_plain k_p_is_plain fun _ _ _ _ _ _ us hl => match us, hl with | [_], _ => rfl
  have r_p_is_label : Raw K mg "is_label" st_p_is_label ps_p_is_label := raw_mk X G nf_p_is_label l_p_is_label c_p_is_label k_p_is_label fun _ _ _ _ _ _ us hl => match us, hl with | [_], _ => rfl
  have r_p_is_name : Raw K mg "is_name" st_p_is_name ps_p_is_name := raw_mk X G nf_p_is_name l_p_is_name c_p_is_name k_p_is_name fun _ _ _ _ _ _ us hl => match us, hl with | [_], _ => rfl
  have r_p_is_starless : Raw K mg "is_starless" st_p_is_starless ps_p_is_starless := raw_mk X G nf_p_is_starless l_p_is_starless c_p_is_starless k_p_is_starless fun _ _ _ _ _ _ us hl => match us, hl with | [_], _ => rfl
  have r_p_name_rank : Raw K mg "name_rank" st_p_name_rank ps_p_name_rank := raw_mk X G nf_p_name_rank l_p_name_rank c_p_name_rank k_p_name_rank fun _ _ _ _ _ _ us hl => match us, hl with | [_], _ => rfl
  have r_p_is_among : Raw K mg "is_among" st_p_is_among ps_p_is_among := raw_mk X G nf_p_is_among l_p_is_among c_p_is_among k_p_is_among fun _ _ _ _ _ _ us hl => match us, hl with | [_, _, _], _ => rfl
  have r_p_is_kind : Raw K mg "is_kind" st_p_is_kind ps_p_is_kind := raw_mk X G nf_p_is_kind l_p_is_kind c_p_is_kind k_p_is_kind fun _ _ _ _ _ _ us hl => match us, hl with | [_], _ => rfl
  have r_p_is_live : Raw K mg "is_live" st_p_is_live ps_p_is_live := raw_mk X G nf_p_is_live l_p_is_live c_p_is_live k_p_is_live fun _ _ _ _ _ _ us hl => match us, hl with | [_], _ => rfl
  have r_p_is_words : Raw K mg "is_words" st_p_is_words ps_p_is_words := raw_mk X G nf_p_is_words l_p_is_words c_p_is_words k_p_is_words fun _ _ _ _ _ _ us hl => match us, hl with | [_], _ => rfl
  have r_p_is_top : Raw K mg "is_top" st_p_is_top ps_p_is_top := raw_mk X G nf_p_is_top l_p_is_top c_p_is_top k_p_is_top fun _ _ _ _ _ _ us hl => match us, hl with | [_], _ => rfl
  have r_p_is_seal : Raw K mg "is_seal" st_p_is_seal ps_p_is_seal := raw_mk X G nf_p_is_seal l_p_is_seal c_p_is_seal k_p_is_seal fun _ _ _ _ _ _ us hl => match us, hl with | [_], _ => rfl
  have r_p_is_gap : Raw K mg "is_gap" st_p_is_gap ps_p_is_gap := raw_mk X G nf_p_is_gap l_p_is_gap c_p_is_gap k_p_is_gap fun _ _ _ _ _ _ us hl => match us, hl with | [_], _ => rfl
  have r_p_is_data : Raw K mg "is_data" st_p_is_data ps_p_is_data := raw_mk X G nf_p_is_data l_p_is_data c_p_is_data k_p_is_data fun _ _ _ _ _ _ us hl => match us, hl with | [_, _], _ => rfl
  have r_p_is_record : Raw K mg "is_record" st_p_is_record ps_p_is_record := raw_mk X G nf_p_is_record l_p_is_record c_p_is_record k_p_is_record fun _ _ _ _ _ _ us hl => match us, hl with | [_], _ => rfl
  have r_p_data_rank : Raw K mg "data_rank" st_p_data_rank ps_p_data_rank := raw_mk X G nf_p_data_rank l_p_data_rank c_p_data_rank k_p_data_rank fun _ _ _ _ _ _ us hl => match us, hl with | [_, _], _ => rfl
  have r_p_record_rank : Raw K mg "record_rank" st_p_record_rank ps_p_record_rank := raw_mk X G nf_p_record_rank l_p_record_rank c_p_record_rank k_p_record_rank fun _ _ _ _ _ _ us hl => match us, hl with | [_], _ => rfl
  have r_p_are_records : Raw K mg "are_records" st_p_are_records ps_p_are_records := raw_mk X G nf_p_are_records l_p_are_records c_p_are_records k_p_are_records fun _ _ _ _ _ _ us hl => match us, hl with | [_], _ => rfl
  have r_p_in_order : Raw K mg "in_order" st_p_in_order ps_p_in_order := raw_mk X G nf_p_in_order l_p_in_order c_p_in_order k_p_in_order fun _ _ _ _ _ _ us hl => match us, hl with | [_], _ => rfl
  have r_p_ordered : Raw K mg "ordered" st_p_ordered ps_p_ordered := raw_mk X G nf_p_ordered l_p_ordered c_p_ordered k_p_ordered fun _ _ _ _ _ _ us hl => match us, hl with | [_], _ => rfl
  have r_cell_at : Raw K mg "_law_cell_at" st_cell_at ps_cell_at := raw_mk X G nf_cell_at l_cell_at c_cell_at k_cell_at fun _ _ _ _ _ _ us hl => match us, hl with | [_, _], _ => rfl
  have r_next : Raw K mg "_law_next" st_next ps_next := raw_mk X G nf_next l_next c_next k_next fun _ _ _ _ _ _ us hl => match us, hl with | [_], _ => rfl
  have r_great : Raw K mg "_law_great" st_great ps_great := raw_mk X G nf_great l_great c_great k_great fun _ _ _ _ _ _ us hl => match us, hl with | [_, _], _ => rfl
  have r_signs : Raw K mg "_law_signs" st_signs ps_signs := raw_mk X G nf_signs l_signs c_signs k_signs fun _ _ _ _ _ _ us hl => match us, hl with | [], _ => rfl
  have r_label : Raw K mg "_law_label" st_label ps_label := raw_mk X G nf_label l_label c_label k_label fun _ _ _ _ _ _ us hl => match us, hl with | [_, _], _ => rfl
  have r_labels : Raw K mg "_law_labels" st_labels ps_labels := raw_mk X G nf_labels l_labels c_labels k_labels fun _ _ _ _ _ _ us hl => match us, hl with | [_], _ => rfl
  have r_name : Raw K mg "_law_name" st_name ps_name := raw_mk X G nf_name l_name c_name k_name fun _ _ _ _ _ _ us hl => match us, hl with | [_, _], _ => rfl
  have r_plain : Raw K mg "_law_plain" st_plain ps_plain := raw_mk X G nf_plain l_plain c_plain k_plain fun _ _ _ _ _ _ us hl => match us, hl with | [_, _], _ => rfl
  have r_text : Raw K mg "_law_text" st_text ps_text := raw_mk X G nf_text l_text c_text k_text fun _ _ _ _ _ _ us hl => match us, hl with | [_, _], _ => rfl
  have r_kinds : Raw K mg "_law_kinds" st_kinds ps_kinds := raw_mk X G nf_kinds l_kinds c_kinds k_kinds fun _ _ _ _ _ _ us hl => match us, hl with | [], _ => rfl
  have r_data : Raw K mg "_law_data" st_data ps_data := raw_mk X G nf_data l_data c_data k_data fun _ _ _ _ _ _ us hl => match us, hl with | [_, _, _], _ => rfl
  have r_record : Raw K mg "_law_record" st_record ps_record := raw_mk X G nf_record l_record c_record k_record fun _ _ _ _ _ _ us hl => match us, hl with | [_, _], _ => rfl
  have r_before : Raw K mg "_law_before" st_before ps_before := raw_mk X G nf_before l_before c_before k_before fun _ _ _ _ _ _ us hl => match us, hl with | [_, _], _ => rfl
  have r_among : Raw K mg "_law_among" st_among ps_among := raw_mk X G nf_among l_among c_among k_among fun _ _ _ _ _ _ us hl => match us, hl with | [_, _, _], _ => rfl
  have r_is_name : Raw K mg "_law_is_name" st_is_name ps_is_name := raw_mk X G nf_is_name l_is_name c_is_name k_is_name fun _ _ _ _ _ _ us hl => match us, hl with | [_, _], _ => rfl
  have r_is_kind : Raw K mg "_law_is_kind" st_is_kind ps_is_kind := raw_mk X G nf_is_kind l_is_kind c_is_kind k_is_kind fun _ _ _ _ _ _ us hl => match us, hl with | [_], _ => rfl
  have r_is_data : Raw K mg "_law_is_data" st_is_data ps_is_data := raw_mk X G nf_is_data l_is_data c_is_data k_is_data fun _ _ _ _ _ _ us hl => match us, hl with | [_, _], _ => rfl
  have r_is_record : Raw K mg "_law_is_record" st_is_record ps_is_record := raw_mk X G nf_is_record l_is_record c_is_record k_is_record fun _ _ _ _ _ _ us hl => match us, hl with | [_], _ => rfl
  have r_odd : Raw K mg "_law_odd" st_odd ps_odd := raw_mk X G nf_odd l_odd c_odd k_odd fun _ _ _ _ _ _ us hl => match us, hl with | [_, _], _ => rfl
  have r_spoilt : Raw K mg "_law_spoilt" st_spoilt ps_spoilt := raw_mk X G nf_spoilt l_spoilt c_spoilt k_spoilt fun _ _ _ _ _ _ us hl => match us, hl with | [_, _], _ => rfl
  have r_less : Raw K mg "_law_less" st_less ps_less := raw_mk X G nf_less l_less c_less k_less fun _ _ _ _ _ _ us hl => match us, hl with | [_, _, _], _ => rfl
  have r_ahead : Raw K mg "_law_ahead" st_ahead ps_ahead := raw_mk X G nf_ahead l_ahead c_ahead k_ahead fun _ _ _ _ _ _ us hl => match us, hl with | [_, _], _ => rfl
  have r_sorted : Raw K mg "_law_sorted" st_sorted ps_sorted := raw_mk X G nf_sorted l_sorted c_sorted k_sorted fun _ _ _ _ _ _ us hl => match us, hl with | [_], _ => rfl
  have r_some : Raw K mg "_law_some" st_some ps_some := raw_mk X G nf_some l_some c_some k_some fun _ _ _ _ _ _ us hl => match us, hl with | [_, _], _ => rfl
  have r_word : Raw K mg "_law_word" st_word ps_word := raw_mk X G nf_word l_word c_word k_word fun _ _ _ _ _ _ us hl => match us, hl with | [_], _ => rfl
  refine ⟨_, fun s u => .of_eq rfl, fun base _ _ => all_ok (P := l.prog) (wd := w) (base := base) T F r_p_is_plain r_p_is_label r_p_is_name r_p_is_starless r_p_name_rank r_p_is_among r_p_is_kind r_p_is_live r_p_is_words r_p_is_top r_p_is_seal r_p_is_gap r_p_is_data r_p_is_record r_p_data_rank r_p_record_rank r_p_are_records r_p_in_order r_p_ordered r_cell_at r_next r_great r_signs r_label r_labels r_name r_plain r_text r_kinds r_data r_record r_before r_among r_is_name r_is_kind r_is_data r_is_record r_odd r_spoilt r_less r_ahead r_sorted r_some r_word (fun_mk (st := st_law) l_law c_law k_law)⟩
end DL.K03
open PySem PySem.W PyProof.Rows
set_option maxHeartbeats 0 in
theorem PySem.Challenge.cw_namehouse_k03_records_and_their_order_holds : PySem.Challenge.rw_namehouse_k03_records_and_their_order.Holds := by
  w_on; o_law; k_head; (case hw => w_witness2)
  k_fill
  refine L2.walk_of (l := PySem.Challenge.rw_namehouse_k03_records_and_their_order) (n := 63) (k := 10) (x := "_law_script") (CX := fun w => L2.CX PySem.Challenge.rw_namehouse_k03_records_and_their_order.prog w) (sp := fun w => DL.spS _ DL.K03.g_law) rfl (by decide) rfl ⟨rfl, by decide, by decide⟩ (fun w h Y => PySem.W.kIn_of Y) ?F (fun _ _ a ns hl _ hS => DL.law_entry hS fun P EP h => DL.K03.entry hl h) (fun _ _ _ _ _ h => DL.law_end h)
  case F =>
    intro w mg fa h KX G hmg
    refine' DL.K03.all_mk KX G hmg ?n_isinstance ?n_str ?n_len ?n_MOST_SIGNS ?n_all ?n_SIGNS ?n_STAR ?n_tuple ?n_MOST_LABELS ?n_reversed ?n_int ?n_bool ?n_KINDS ?lk_KINDS ?n_MOST_LIVE ?n_MOST_TEXT ?n_ord ?n_PERCENT ?n_MOST_VERSION ?n_MOST_KEY ?n_MOST_SUM ?n_range ?n_MOST_ADDR ?n_list ?n_sorted ?n_BadRecord ?k_BadRecord ?r1_BadRecord ?r2_BadRecord ?x_BadRecord ?n_max ?n_enumerate ?n_set ?n_HouseError ?n_BadName ?n_BadLine ?n_BadLetter ?n_BadChange ?n_BadZone ?n_BadTurn ?n_BadRow ?n_ValueError ?nf_p_is_plain ?l_p_is_plain ?c_p_is_plain ?k_p_is_plain ?nf_p_is_label ?l_p_is_label ?c_p_is_label ?k_p_is_label ?nf_p_is_name ?l_p_is_name ?c_p_is_name ?k_p_is_name ?nf_p_is_starless ?l_p_is_starless ?c_p_is_starless ?k_p_is_starless ?nf_p_name_rank ?l_p_name_rank ?c_p_name_rank ?k_p_name_rank ?nf_p_is_among ?l_p_is_among ?c_p_is_among ?k_p_is_among ?nf_p_is_kind ?l_p_is_kind ?c_p_is_kind ?k_p_is_kind ?nf_p_is_live ?l_p_is_live ?c_p_is_live ?k_p_is_live ?nf_p_is_words ?l_p_is_words ?c_p_is_words ?k_p_is_words ?nf_p_is_top ?l_p_is_top ?c_p_is_top ?k_p_is_top ?nf_p_is_seal ?l_p_is_seal ?c_p_is_seal ?k_p_is_seal ?nf_p_is_gap ?l_p_is_gap ?c_p_is_gap ?k_p_is_gap ?nf_p_is_data ?l_p_is_data ?c_p_is_data ?k_p_is_data ?nf_p_is_record ?l_p_is_record ?c_p_is_record ?k_p_is_record ?nf_p_data_rank ?l_p_data_rank ?c_p_data_rank ?k_p_data_rank ?nf_p_record_rank ?l_p_record_rank ?c_p_record_rank ?k_p_record_rank ?nf_p_are_records ?l_p_are_records ?c_p_are_records ?k_p_are_records ?nf_p_in_order ?l_p_in_order ?c_p_in_order ?k_p_in_order ?nf_p_ordered ?l_p_ordered ?c_p_ordered ?k_p_ordered ?nf_cell_at ?l_cell_at ?c_cell_at ?k_cell_at ?nf_next ?l_next ?c_next ?k_next ?nf_great ?l_great ?c_great ?k_great ?nf_signs ?l_signs ?c_signs ?k_signs ?nf_label ?l_label ?c_label ?k_label ?nf_labels ?l_labels ?c_labels ?k_labels ?nf_name ?l_name ?c_name ?k_name ?nf_plain ?l_plain ?c_plain ?k_plain ?nf_text ?l_text ?c_text ?k_text ?nf_kinds ?l_kinds ?c_kinds ?k_kinds ?nf_data ?l_data ?c_data ?k_data ?nf_record ?l_record ?c_record ?k_record ?nf_before ?l_before ?c_before ?k_before ?nf_among ?l_among ?c_among ?k_among ?nf_is_name ?l_is_name ?c_is_name ?k_is_name ?nf_is_kind ?l_is_kind ?c_is_kind ?k_is_kind ?nf_is_data ?l_is_data ?c_is_data ?k_is_data ?nf_is_record ?l_is_record ?c_is_record ?k_is_record ?nf_odd ?l_odd ?c_odd ?k_odd ?nf_spoilt ?l_spoilt ?c_spoilt ?k_spoilt ?nf_less ?l_less ?c_less ?k_less ?nf_ahead ?l_ahead ?c_ahead ?k_ahead ?nf_sorted ?l_sorted ?c_sorted ?k_sorted ?nf_some ?l_some ?c_some ?k_some ?nf_word ?l_word ?c_word ?k_word ?nf_law ?l_law ?c_law ?k_law ?i_BadRecord ?y_BadRecord ?i_HouseError ?y_HouseError ?s_BadRecord ?s_VE ?s_HE ?b_HE ?e1 ?e2 ?e4 ?e5 ?e6 ?e7 ?e8 ?i_BadChange ?y_BadChange ?s_BadChange ?i_BadLetter ?y_BadLetter ?s_BadLetter ?i_BadLine ?y_BadLine ?s_BadLine ?i_BadName ?y_BadName ?s_BadName ?i_BadRow ?y_BadRow ?s_BadRow ?i_BadTurn ?y_BadTurn ?s_BadTurn ?i_BadZone ?y_BadZone ?s_BadZone
    (case n_isinstance => k_is)
    (case n_str => k_is)
    (case n_len => k_is)
    (case n_MOST_SIGNS => k_is)
    (case n_all => k_is)
    (case n_SIGNS => k_is)
    (case n_STAR => k_is)
    (case n_tuple => k_is)
    (case n_MOST_LABELS => k_is)
    (case n_reversed => k_is)
    (case n_int => k_is)
    (case n_bool => k_is)
    (case n_KINDS => k_is)
    (case lk_KINDS => k_is)
    (case n_MOST_LIVE => k_is)
    (case n_MOST_TEXT => k_is)
    (case n_ord => k_is)
    (case n_PERCENT => k_is)
    (case n_MOST_VERSION => k_is)
    (case n_MOST_KEY => k_is)
    (case n_MOST_SUM => k_is)
    (case n_range => k_is)
    (case n_MOST_ADDR => k_is)
    (case n_list => k_is)
    (case n_sorted => k_is)
    (case n_BadRecord => k_is)
    (case k_BadRecord => k_is)
    (case r1_BadRecord => k_is)
    (case r2_BadRecord => k_is)
    (case x_BadRecord => k_exc)
    (case n_max => k_is)
    (case n_enumerate => k_is)
    (case n_set => k_is)
    (case n_HouseError => k_is)
    (case n_BadName => k_is)
    (case n_BadLine => k_is)
    (case n_BadLetter => k_is)
    (case n_BadChange => k_is)
    (case n_BadZone => k_is)
    (case n_BadTurn => k_is)
    (case n_BadRow => k_is)
    (case n_ValueError => k_is)
    (case nf_p_is_plain => k_is)
    (case l_p_is_plain => k_is)
    (case c_p_is_plain => k_is)
    (case k_p_is_plain => k_is)
    (case nf_p_is_label => k_is)
    (case l_p_is_label => k_is)
    (case c_p_is_label => k_is)
    (case k_p_is_label => k_is)
    (case nf_p_is_name => k_is)
    (case l_p_is_name => k_is)
    (case c_p_is_name => k_is)
    (case k_p_is_name => k_is)
    (case nf_p_is_starless => k_is)
    (case l_p_is_starless => k_is)
    (case c_p_is_starless => k_is)
    (case k_p_is_starless => k_is)
    (case nf_p_name_rank => k_is)
    (case l_p_name_rank => k_is)
    (case c_p_name_rank => k_is)
    (case k_p_name_rank => k_is)
    (case nf_p_is_among => k_is)
    (case l_p_is_among => k_is)
    (case c_p_is_among => k_is)
    (case k_p_is_among => k_is)
    (case nf_p_is_kind => k_is)
    (case l_p_is_kind => k_is)
    (case c_p_is_kind => k_is)
    (case k_p_is_kind => k_is)
    (case nf_p_is_live => k_is)
    (case l_p_is_live => k_is)
    (case c_p_is_live => k_is)
    (case k_p_is_live => k_is)
    (case nf_p_is_words => k_is)
    (case l_p_is_words => k_is)
    (case c_p_is_words => k_is)
    (case k_p_is_words => k_is)
    (case nf_p_is_top => k_is)
    (case l_p_is_top => k_is)
    (case c_p_is_top => k_is)
    (case k_p_is_top => k_is)
    (case nf_p_is_seal => k_is)
    (case l_p_is_seal => k_is)
    (case c_p_is_seal => k_is)
    (case k_p_is_seal => k_is)
    (case nf_p_is_gap => k_is)
    (case l_p_is_gap => k_is)
    (case c_p_is_gap => k_is)
    (case k_p_is_gap => k_is)
    (case nf_p_is_data => k_is)
    (case l_p_is_data => k_is)
    (case c_p_is_data => k_is)
    (case k_p_is_data => k_is)
    (case nf_p_is_record => k_is)
    (case l_p_is_record => k_is)
    (case c_p_is_record => k_is)
    (case k_p_is_record => k_is)
    (case nf_p_data_rank => k_is)
    (case l_p_data_rank => k_is)
    (case c_p_data_rank => k_is)
    (case k_p_data_rank => k_is)
    (case nf_p_record_rank => k_is)
    (case l_p_record_rank => k_is)
    (case c_p_record_rank => k_is)
    (case k_p_record_rank => k_is)
    (case nf_p_are_records => k_is)
    (case l_p_are_records => k_is)
    (case c_p_are_records => k_is)
    (case k_p_are_records => k_is)
    (case nf_p_in_order => k_is)
    (case l_p_in_order => k_is)
    (case c_p_in_order => k_is)
    (case k_p_in_order => k_is)
    (case nf_p_ordered => k_is)
    (case l_p_ordered => k_is)
    (case c_p_ordered => k_is)
    (case k_p_ordered => k_is)
    (case nf_cell_at => k_is)
    (case l_cell_at => k_is)
    (case c_cell_at => k_is)
    (case k_cell_at => k_is)
    (case nf_next => k_is)
    (case l_next => k_is)
    (case c_next => k_is)
    (case k_next => k_is)
    (case nf_great => k_is)
    (case l_great => k_is)
    (case c_great => k_is)
    (case k_great => k_is)
    (case nf_signs => k_is)
    (case l_signs => k_is)
    (case c_signs => k_is)
    (case k_signs => k_is)
    (case nf_label => k_is)
    (case l_label => k_is)
    (case c_label => k_is)
    (case k_label => k_is)
    (case nf_labels => k_is)
    (case l_labels => k_is)
    (case c_labels => k_is)
    (case k_labels => k_is)
    (case nf_name => k_is)
    (case l_name => k_is)
    (case c_name => k_is)
    (case k_name => k_is)
    (case nf_plain => k_is)
    (case l_plain => k_is)
    (case c_plain => k_is)
    (case k_plain => k_is)
    (case nf_text => k_is)
    (case l_text => k_is)
    (case c_text => k_is)
    (case k_text => k_is)
    (case nf_kinds => k_is)
    (case l_kinds => k_is)
    (case c_kinds => k_is)
    (case k_kinds => k_is)
    (case nf_data => k_is)
    (case l_data => k_is)
    (case c_data => k_is)
    (case k_data => k_is)
    (case nf_record => k_is)
    (case l_record => k_is)
    (case c_record => k_is)
    (case k_record => k_is)
    (case nf_before => k_is)
    (case l_before => k_is)
    (case c_before => k_is)
    (case k_before => k_is)
    (case nf_among => k_is)
    (case l_among => k_is)
    (case c_among => k_is)
    (case k_among => k_is)
    (case nf_is_name => k_is)
    (case l_is_name => k_is)
    (case c_is_name => k_is)
    (case k_is_name => k_is)
    (case nf_is_kind => k_is)
    (case l_is_kind => k_is)
    (case c_is_kind => k_is)
    (case k_is_kind => k_is)
    (case nf_is_data => k_is)
    (case l_is_data => k_is)
    (case c_is_data => k_is)
    (case k_is_data => k_is)
    (case nf_is_record => k_is)
    (case l_is_record => k_is)
    (case c_is_record => k_is)
    (case k_is_record => k_is)
    (case nf_odd => k_is)
    (case l_odd => k_is)
    (case c_odd => k_is)
    (case k_odd => k_is)
    (case nf_spoilt => k_is)
    (case l_spoilt => k_is)
    (case c_spoilt => k_is)
    (case k_spoilt => k_is)
    (case nf_less => k_is)
    (case l_less => k_is)
    (case c_less => k_is)
    (case k_less => k_is)
    (case nf_ahead => k_is)
    (case l_ahead => k_is)
    (case c_ahead => k_is)
    (case k_ahead => k_is)
    (case nf_sorted => k_is)
    (case l_sorted => k_is)
    (case c_sorted => k_is)
    (case k_sorted => k_is)
    (case nf_some => k_is)
    (case l_some => k_is)
    (case c_some => k_is)
    (case k_some => k_is)
    (case nf_word => k_is)
    (case l_word => k_is)
    (case c_word => k_is)
    (case k_word => k_is)
    (case nf_law => k_is)
    (case l_law => k_is)
    (case c_law => k_is)
    (case k_law => k_is)
    (case i_BadRecord => k_is)
    (case y_BadRecord => k_is)
    (case i_HouseError => k_is)
    (case y_HouseError => k_is)
    (case s_BadRecord => k_is)
    (case s_VE => k_is)
    (case s_HE => k_is)
    (case b_HE => k_is)
    (case e1 => k_is)
    (case e2 => k_is)
    (case e4 => k_is)
    (case e5 => k_is)
    (case e6 => k_is)
    (case e7 => k_is)
    (case e8 => k_is)
    (case i_BadChange => k_is)
    (case y_BadChange => k_is)
    (case s_BadChange => k_is)
    (case i_BadLetter => k_is)
    (case y_BadLetter => k_is)
    (case s_BadLetter => k_is)
    (case i_BadLine => k_is)
    (case y_BadLine => k_is)
    (case s_BadLine => k_is)
    (case i_BadName => k_is)
    (case y_BadName => k_is)
    (case s_BadName => k_is)
    (case i_BadRow => k_is)
    (case y_BadRow => k_is)
    (case s_BadRow => k_is)
    (case i_BadTurn => k_is)
    (case y_BadTurn => k_is)
    (case s_BadTurn => k_is)
    (case i_BadZone => k_is)
    (case y_BadZone => k_is)
    (case s_BadZone => k_is)
